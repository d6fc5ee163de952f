import PyProof.Rows.All
import Wide.All
import OpenK.AllK
import Wide.FinOn
import KE.SortData
import KE.DataMinMax
import KE.DatumMoreOrd
import KE.DataFind
import HandS.ForMost
import HandS.TupAny
import HandS.TupMul
import HandS.Conv
import HandS.Deep
import HandS.IsInst
import KE.DataEq
import KE.DataCmp
import KE.DataAny
import KE.KTupSum
import HandS.Iter
import HandS.Rev
import HandS.Zip
import HandS.Flow
import HandS.Style
import HandS.Words
import HandS.Defaults
import HandS.HeadHook2
import HandS.HeadEnd
import HandS.Head0
import HandS.Head1
import HandS.Head2
import PySem.Challenge.RW_trickward_k67_ranks_and_pairings
set_option maxRecDepth 100000
section
set_option autoImplicit false
set_option linter.all false
namespace PL
open PySem PySem.W PySem.SeqAt

/-! ## values, stores -/
inductive D where
  | non | bl (b : Bool) | int (i : Int) | str (x : Str) | tup (xs : List D) | loc (a : Nat)
  deriving Inhabited
inductive O where
  | lst (xs : List D) | rol (xs : List D) | dic (kvs : List (D × D)) | set (xs : List D) | ins (c : Nat) (fs : List (Str × D))
abbrev S := Nat → Option O
def S.up (s : S) (a : Nat) (o : O) : S := fun b => if b = a then some o else s b
def S.le (s t : S) : Prop := ∀ a o, s a = some o → t a = some o
abbrev Post := D → S → Prop
abbrev Vs := List (Option D)
abbrev lim : Nat := 16777216

theorem S.le_refl (s : S) : s.le s := fun _ _ h => h
theorem S.le_trans {s t u : S} (h : s.le t) (h' : t.le u) : s.le u := fun a o e => h' a o (h a o e)
theorem S.up_same {s : S} {a : Nat} {o : O} : s.up a o a = some o := by simp [S.up]
theorem S.up_ne {s : S} {a b : Nat} {o : O} (h : b ≠ a) : s.up a o b = s b := by simp [S.up, h]
theorem S.up_up {s : S} {a : Nat} {o o' : O} : (s.up a o).up a o' = s.up a o' := by
  funext b; unfold S.up; split <;> rfl
theorem S.up_comm {s : S} {a b : Nat} {o o' : O} (h : a ≠ b) : (s.up a o).up b o' = (s.up b o').up a o := by
  funext c; unfold S.up
  by_cases h1 : c = a <;> by_cases h2 : c = b <;> simp [h1, h2]
  · exact absurd (h1.symm.trans h2) h
  · intro e; exact absurd e h
  · intro e; exact absurd e.symm h
theorem S.le_up {s : S} {a : Nat} {o : O} (h : s a = none) : s.le (s.up a o) := fun b u e => by
  rw [S.up_ne]; exact e
  rintro rfl; rw [h] at e; cases e
theorem S.up_le {s t : S} {a : Nat} {o : O} (h : s.le t) : (s.up a o).le (t.up a o) := fun b u e => by
  unfold S.up at e ⊢; split at e <;> simp_all [S.le]
theorem S.up_self {s : S} {a : Nat} {o : O} (h : s a = some o) : s.up a o = s := by
  funext b; unfold S.up; split
  · next e => rw [e, h]
  · rfl
theorem S.ne_of {s : S} {a p : Nat} {o : O} (h : s a = some o) (hp : s p = none) : a ≠ p := by
  rintro rfl; rw [h] at hp; cases hp

/-- the list that may be read at a -/
def seqAt (s : S) (a : Nat) : Option (List D) := match s a with
  | some (.lst xs) => some xs | some (.rol xs) => some xs | _ => none

/-- data for == : lists resolved -/
def dat (s : S) : Nat → D → Option PyData
  | _, .non => some .none
  | _, .bl b => some (.bool b)
  | _, .int i => some (.int i)
  | _, .str x => some (.str x)
  | n + 1, .tup xs => (xs.mapM (dat s n)).map .tuple
  | n + 1, .loc a => match seqAt s a with
    | some xs => (xs.mapM (dat s n)).map .list
    | none => none
  | 0, .tup _ => none
  | 0, .loc _ => none

def b2i (b : Bool) : Int := if b then 1 else 0

mutual
def D.beq : D → D → Bool
  | .non, .non => true
  | .bl a, .bl b => a == b
  | .int i, .int j => i == j
  | .str x, .str y => x == y
  | .tup xs, .tup ys => D.beqs xs ys
  | .loc a, .loc b => a == b
  | _, _ => false
def D.beqs : List D → List D → Bool
  | [], [] => true
  | x :: xs, y :: ys => D.beq x y && D.beqs xs ys
  | _, _ => false
end
/-- the datum that a value is (for sorting) -/
def datD (s : S) (d : D) : PyData := (dat s 50 d).getD .none
def sortS (s : S) (rev : Bool) (xs : List D) : List D := xs.mergeSort (dataLe rev (datD s))
def Sorts (s : S) (xs : List D) (ds : List PyData) : Prop := xs.mapM (dat s 50) = some ds ∧ AllAlike ds ∧ Sortable ds

def tru (s : S) : D → Option Bool
  | .non => some false
  | .bl b => some b
  | .int i => some (i != 0)
  | .str x => if x.length ≤ lim then some (x.length != 0) else none
  | .tup xs => some (!xs.isEmpty)
  | .loc a => match s a with
    | some (.lst xs) => some (!xs.isEmpty)
    | some (.rol xs) => some (!xs.isEmpty)
    | some (.dic kvs) => some (!kvs.isEmpty)
    | _ => none

/-! ## syntax -/
inductive Op where
  | add | sub | mul | fdiv | mod | pow | shl | shr | band
  deriving DecidableEq
inductive Cm where
  | eq | ne | lt | le | gt | ge | isin | notin
  deriving DecidableEq
inductive Cl where
  | tuple | bool | int | str | list | dict
  deriving DecidableEq
inductive Bi where
  | len | abs | int | list | tuple | sorted | sum | all | any | max | min | set | dict | isi (c : Cl)
  | str | listR (n : Nat) | tupleR (n : Nat) | sortedR (n : Nat) | sortedRev | mkset | mkdict | sumT
  deriving DecidableEq
inductive Mt where
  | append | extend | popAt | pop | index | remove | count | get1 | get2
  deriving DecidableEq
inductive E where
  | var (i : Nat) | int (i : Int) | str (x : Str) | bl (b : Bool) | non
  | own (i : Nat) | mv (i : Nat)
  | tup (es : List E) | lst (es : List E) | dic (ks : List Str) (vs : List E)
  | bin (op : Op) (a b : E) | neg (a : E) | not (a : E) | and (es : List E) | or (es : List E)
  | ife (c a b : E) | cmp (op : Cm) (a b : E) | chain (o1 o2 : Cm) (a b c : E) | isN (neg : Bool) (a : E)
  | call (f : Nat) (es : List E) | bi (b : Bi) (es : List E) | mt (m : Mt) (o : E) (es : List E)
  | ix (a b : E) | sl (a : E) (lo hi : Option E)
  | val (e : E) | rng (es : List E) | zip (a b : E) | rev (a : E) | itm (a : E) | vls (a : E)
  | comp (el : E) (tg : List Nat) (tup : Bool) (it : E) (cond : Option E) (own : List Nat)
  | comp2 (el : E) (tg : List Nat) (tup : Bool) (it : E) (tg1 : List Nat) (tup1 : Bool) (it1 : E) (cond : Option E) (own own1 : List Nat)
inductive Tg where
  | name (i : Nat) | tup (ts : List Tg) | sub (o i : E) | own (i : Nat)
inductive St where
  | asg (tg : Tg) (e : E) | aug (i : Nat) (op : Op) (e : E) | augS (o i : E) (op : Op) (e : E)
  | ife (c : E) (a b : List St) | for (tg : Tg) (it : E) (body : List St) | while (c : E) (body : List St)
  | ret (e : E) | retN | expr (e : E) | pass | brk | cont

/-! ## what the primitives do -/
/-- a new object -/
def newO (o : O) (s : S) (Q : Post) : Prop := ∀ p, s p = none → Q (.loc p) (s.up p o)

def wpBin : Op → D → D → S → Post → Prop
  | .add, .int i, .int j, s, Q => Q (.int (i + j)) s
  | .add, .str x, .str y, s, Q => x.length + y.length ≤ lim ∧ Q (.str (x ++ y)) s
  | .add, .tup xs, .tup ys, s, Q => xs.length + ys.length ≤ lim ∧ Q (.tup (xs ++ ys)) s
  | .add, .loc a, .loc b, s, Q => ∃ xs ys, s a = some (.lst xs) ∧ s b = some (.lst ys) ∧ xs.length + ys.length ≤ lim ∧ newO (.lst (xs ++ ys)) s Q
  | .sub, .int i, .int j, s, Q => Q (.int (i - j)) s
  | .mul, .int i, .int j, s, Q => ((-(2 ^ 64) < i ∧ i < 2 ^ 64) ∨ (-(2 ^ 64) < j ∧ j < 2 ^ 64)) ∧ Q (.int (i * j)) s
  | .mul, .loc a, .int k, s, Q => ∃ xs, s a = some (.lst xs) ∧ -(2 ^ 63) ≤ k ∧ k < 2 ^ 63 ∧ xs.length * k.toNat ≤ lim ∧ newO (.lst (List.replicate k.toNat xs).flatten) s Q
  | .mul, .tup xs, .int k, s, Q => xs ≠ [] ∧ 2 ≤ k ∧ k ≤ 1000 ∧ xs.length ≤ 1000 ∧ Q (.tup (List.replicate k.toNat xs).flatten) s
  | .fdiv, .int i, .int j, s, Q => (0 < j ∧ j < 1073741824) ∧ Q (.int (i / j)) s
  | .mod, .int i, .int j, s, Q => 0 < j ∧ Q (.int (i % j)) s
  | .pow, .int i, .int j, s, Q => (0 ≤ j ∧ j ≤ 1000000 ∧ i.natAbs < 2 ^ 64) ∧ Q (.int (i ^ j.toNat)) s
  | .shl, .int i, .int j, s, Q => (0 ≤ j ∧ j ≤ 1000000 ∧ i.natAbs < 2 ^ 64) ∧ Q (.int (i * 2 ^ j.toNat)) s
  | .shr, .int i, .int j, s, Q => 0 ≤ j ∧ Q (.int (i / 2 ^ j.toNat)) s
  | .band, .int i, .int j, s, Q => 0 ≤ i ∧ j = 1 ∧ Q (.int (i % 2)) s
  | _, _, _, _, _ => False

/-- whole numbers and texts as keys -/
def keyD : D → Bool
  | .int _ => true
  | .str _ => true
  | _ => false
def keyOk (kvs : List (D × D)) (k : D) : Bool := keyD k
/-- dict: put -/
def dput (kvs : List (D × D)) (k v : D) : List (D × D) :=
  if kvs.any (fun kv => D.beq kv.1 k) then kvs.map fun kv => if D.beq kv.1 k then (kv.1, v) else kv else kvs ++ [(k, v)]
def dget (kvs : List (D × D)) (k : D) : Option D := (kvs.find? fun kv => D.beq kv.1 k).map (·.2)

def wpCm : Cm → D → D → S → Post → Prop
  | .eq, x, y, s, Q => ∃ a b, dat s 60 x = some a ∧ dat s 60 y = some b ∧ Q (.bl (PyData.eqv a b)) s
  | .ne, x, y, s, Q => ∃ a b, dat s 60 x = some a ∧ dat s 60 y = some b ∧ Q (.bl (!PyData.eqv a b)) s
  | .lt, .int i, .int j, s, Q => Q (.bl (decide (i < j))) s
  | .lt, .str x, .str y, s, Q => Q (.bl (dataLt (.str x) (.str y))) s
  | .lt, .tup xs, .tup ys, s, Q => ∃ a b, dat s 50 (.tup xs) = some a ∧ dat s 50 (.tup ys) = some b ∧ alike a b = true ∧ Q (.bl (dataLt a b)) s
  | .gt, .tup xs, .tup ys, s, Q => ∃ a b, dat s 50 (.tup xs) = some a ∧ dat s 50 (.tup ys) = some b ∧ alike a b = true ∧ Q (.bl (dataLt b a)) s
  | .le, .tup xs, .tup ys, s, Q => ∃ a b, dat s 50 (.tup xs) = some a ∧ dat s 50 (.tup ys) = some b ∧ alike a b = true ∧ Q (.bl (!dataLt b a)) s
  | .le, .int i, .int j, s, Q => Q (.bl (decide (i ≤ j))) s
  | .gt, .int i, .int j, s, Q => Q (.bl (decide (j < i))) s
  | .ge, .int i, .int j, s, Q => Q (.bl (decide (j ≤ i))) s
  | .isin, x, .tup ys, s, Q => ∃ a bs, dat s 60 x = some a ∧ ys.mapM (dat s 59) = some bs ∧ Q (.bl (bs.any fun z => PyData.eqv z a)) s
  | .notin, x, .tup ys, s, Q => ∃ a bs, dat s 60 x = some a ∧ ys.mapM (dat s 59) = some bs ∧ Q (.bl (!bs.any fun z => PyData.eqv z a)) s
  | .isin, x, .loc l, s, Q => (∃ ys a bs, seqAt s l = some ys ∧ dat s 60 x = some a ∧ ys.mapM (dat s 59) = some bs ∧ Q (.bl (bs.any fun z => PyData.eqv z a)) s) ∨
      (∃ kvs, s l = some (.dic kvs) ∧ keyOk kvs x = true ∧ Q (.bl (dget kvs x).isSome) s)
  | .notin, x, .loc l, s, Q => (∃ ys a bs, seqAt s l = some ys ∧ dat s 60 x = some a ∧ ys.mapM (dat s 59) = some bs ∧ Q (.bl (!bs.any fun z => PyData.eqv z a)) s) ∨
      (∃ kvs, s l = some (.dic kvs) ∧ keyOk kvs x = true ∧ Q (.bl (!(dget kvs x).isSome)) s)
  | _, _, _, _, _ => False

/-- the items of a tuple or a list -/
def itemsOf (s : S) : D → Option (List D)
  | .tup xs => some xs
  | .loc a => seqAt s a
  | _ => none
def isCl (s : S) : Cl → D → Option Bool
  | c, .non => some false
  | c, .bl _ => some (c == .bool || c == .int)
  | c, .int _ => some (c == .int)
  | c, .str _ => some (c == .str)
  | c, .tup _ => some (c == .tuple)
  | c, .loc a => match s a with
    | some (.lst _) => some (c == .list)
    | some (.dic _) => some (c == .dict)
    | _ => none
def unInt : D → Option Int
  | .int i => some i
  | _ => none
def unBl : D → Option Bool
  | .bl b => some b
  | _ => none
/-- range's ints -/
def rangeL (lo : Int) (n : Nat) (st : Int) : List D := (List.range n).map fun (k : Nat) => D.int (lo + (k : Int) * st)
@[irreducible] def rngOf : List D → Option (Int × Nat × Int)
  | [.int b] => if -(2 ^ 62) ≤ b ∧ b < 2 ^ 62 then some (0, b.toNat, 1) else none
  | [.int a, .int b] => if -(2 ^ 62) ≤ a ∧ a < 2 ^ 62 ∧ -(2 ^ 62) ≤ b ∧ b < 2 ^ 62 then some (a, (b - a).toNat, 1) else none
  | [.int a, .int b, .int c] => if -(2 ^ 61) ≤ a ∧ a < 2 ^ 61 ∧ -(2 ^ 61) ≤ b ∧ b < 2 ^ 61 ∧ c ≠ 0 ∧ c.natAbs < 2 ^ 30 then
      some (a, (if 0 < c then (b - a + c - 1) / c else (a - b - c - 1) / (-c)).toNat, c) else none
  | _ => none
/-- what a list of pairs makes of a dict -/
def dputs : List (D × D) → List D → Option (List (D × D))
  | kvs, [] => some kvs
  | kvs, .tup [k, v] :: r => dputs (dput kvs k v) r
  | _, _ => none
def sputs : List D → List D → List D
  | ys, [] => ys
  | ys, x :: r => sputs (if ys.any (fun y => D.beq y x) then ys else ys ++ [x]) r

def wpLen : List D → S → Post → Prop
  | [.str x], s, Q => x.length ≤ lim ∧ Q (.int x.length) s
  | [.tup xs], s, Q => Q (.int xs.length) s
  | [.loc a], s, Q => match s a with
    | some (.lst xs) => Q (.int xs.length) s
    | some (.rol xs) => Q (.int xs.length) s
    | some (.dic kvs) => Q (.int kvs.length) s
    | _ => False
  | _, _, _ => False
def wpAbs : List D → S → Post → Prop
  | [.int i], s, Q => Q (.int (if i < 0 then -i else i)) s
  | _, _, _ => False
def wpInt : List D → S → Post → Prop
  | [.int i], s, Q => Q (.int i) s
  | [.bl b], s, Q => Q (.int (b2i b)) s
  | _, _, _ => False
def wpList : List D → S → Post → Prop
  | [x], s, Q => ∃ xs, itemsOf s x = some xs ∧ newO (.lst xs) s Q
  | _, _, _ => False
def wpTuple : List D → S → Post → Prop
  | [x], s, Q => ∃ xs, itemsOf s x = some xs ∧ Q (.tup xs) s
  | _, _, _ => False
def wpSorted (rev : Bool) : List D → S → Post → Prop
  | [x], s, Q => ∃ xs ds, itemsOf s x = some xs ∧ Sorts s xs ds ∧ newO (.lst (sortS s rev xs)) s Q
  | _, _, _ => False
def wpSum : List D → S → Post → Prop
  | [x], s, Q => ∃ (xs : List D) (ns : List Int), itemsOf s x = some xs ∧ xs = ns.map D.int ∧ Q (.int ns.sum) s
  | _, _, _ => False
def wpAllB : List D → S → Post → Prop
  | [x], s, Q => ∃ (xs : List D) (bs : List Bool), itemsOf s x = some xs ∧ xs = bs.map D.bl ∧ Q (.bl (bs.all id)) s
  | _, _, _ => False
def wpAnyB : List D → S → Post → Prop
  | [x], s, Q => ∃ (xs : List D) (bs : List Bool), itemsOf s x = some xs ∧ xs = bs.map D.bl ∧ Q (.bl (bs.any id)) s
  | _, _, _ => False
def wpMax : List D → S → Post → Prop
  | [.int i, .int j], s, Q => Q (.int (if j > i then j else i)) s
  | [x], s, Q => ∃ (xs : List D) (a : PyData) (as : List PyData), itemsOf s x = some xs ∧ xs.mapM (dat s 50) = some (a :: as) ∧ AlikeAll (a :: as) ∧ ∀ d, d ∈ xs → dat s 50 d = some (maxD a as) → Q d s
  | _, _, _ => False
def wpMin : List D → S → Post → Prop
  | [.int i, .int j], s, Q => Q (.int (if j < i then j else i)) s
  | [x], s, Q => ∃ (xs : List D) (a : PyData) (as : List PyData), itemsOf s x = some xs ∧ xs.mapM (dat s 50) = some (a :: as) ∧ AlikeAll (a :: as) ∧ ∀ d, d ∈ xs → dat s 50 d = some (minD a as) → Q d s
  | _, _, _ => False
def wpIsi (c : Cl) : List D → S → Post → Prop
  | [x], s, Q => ∃ b, isCl s c x = some b ∧ Q (.bl b) s
  | _, _, _ => False
def wpStr : List D → S → Post → Prop
  | [.int i], s, Q => i.natAbs.log2 < 1920 ∧ Q (.str (Str.ofString (toString i))) s
  | _, _, _ => False
def wpListR (xs : List D) (s : S) (Q : Post) : Prop := ∃ r, rngOf xs = some r ∧ r.2.1 ≤ lim ∧ newO (.lst (rangeL r.1 r.2.1 r.2.2)) s Q
def wpTupleR (xs : List D) (s : S) (Q : Post) : Prop := ∃ r, rngOf xs = some r ∧ r.2.1 ≤ lim ∧ Q (.tup (rangeL r.1 r.2.1 r.2.2)) s
def wpDict : List D → S → Post → Prop
  | [x], s, Q => ∃ xs kvs, itemsOf s x = some xs ∧ dputs [] xs = some kvs ∧ newO (.dic kvs) s Q
  | _, _, _ => False
def wpBi : Bi → List D → S → Post → Prop
  | .len => wpLen
  | .abs => wpAbs
  | .int => wpInt
  | .list => wpList
  | .tuple => wpTuple
  | .sorted => wpSorted false
  | .sortedRev => wpSorted true
  | .sum => wpSum
  | .all => wpAllB
  | .any => wpAnyB
  | .max => wpMax
  | .min => wpMin
  | .isi c => wpIsi c
  | .str => wpStr
  | .listR _ => wpListR
  | .tupleR _ => wpTupleR
  | .dict => wpDict
  | _ => fun _ _ _ => False

/-- a place of a list of n -/
def ixOf (n : Nat) (i : Int) : Option Nat := if 0 ≤ i then (if i < n then some i.toNat else none) else if -(n : Int) ≤ i then some (i + n).toNat else none
def atD (xs : List D) (i : Int) : Option D := (ixOf xs.length i).bind fun j => xs[j]?
def wpIx : D → D → S → Post → Prop
  | .tup xs, .int i, s, Q => ∃ d, atD xs i = some d ∧ Q d s
  | .str x, .int i, s, Q => x.length ≤ lim ∧ ∃ j c, ixOf x.cps.toList.length i = some j ∧ x.cps.toList[j]? = some c ∧ Q (.str ⟨#[c]⟩) s
  | .loc a, k, s, Q => (∃ xs i d, k = .int i ∧ seqAt s a = some xs ∧ atD xs i = some d ∧ Q d s) ∨ (∃ kvs d, s a = some (.dic kvs) ∧ keyOk kvs k = true ∧ dget kvs k = some d ∧ Q d s)
  | _, _, _, _ => False
def cutIx (n d : Nat) : Option Int → Nat
  | none => d
  | some v => if v < 0 then (v + (n : Int)).toNat else min v.toNat n
def cutD {α : Type} (xs : List α) (lo hi : Option Int) : List α := (xs.drop (cutIx xs.length 0 lo)).take (cutIx xs.length xs.length hi - cutIx xs.length 0 lo)
def wpSl : D → Option Int → Option Int → S → Post → Prop
  | .tup xs, lo, hi, s, Q => Q (.tup (cutD xs lo hi)) s
  | .str x, lo, hi, s, Q => x.length ≤ lim ∧ Q (.str ⟨(cutD x.cps.toList lo hi).toArray⟩) s
  | .loc a, lo, hi, s, Q => ∃ xs, seqAt s a = some xs ∧ newO (.lst (cutD xs lo hi)) s Q
  | _, _, _, _, _ => False
def wpAppend : D → List D → S → Post → Prop
  | .loc a, [x], s, Q => ∃ xs, s a = some (.lst xs) ∧ xs.length < lim ∧ Q .non (s.up a (.lst (xs ++ [x])))
  | _, _, _, _ => False
def wpExtend : D → List D → S → Post → Prop
  | .loc a, [.loc b], s, Q => ∃ xs ys, s a = some (.lst xs) ∧ s b = some (.lst ys) ∧ xs.length + ys.length ≤ lim ∧ Q .non (s.up a (.lst (xs ++ ys)))
  | _, _, _, _ => False
def wpPopAt : D → List D → S → Post → Prop
  | .loc a, [.int i], s, Q => ∃ xs j d, s a = some (.lst xs) ∧ (-(2 ^ 63) ≤ i ∧ i < 2 ^ 63) ∧ ixOf xs.length i = some j ∧ xs[j]? = some d ∧ Q d (s.up a (.lst (xs.eraseIdx j)))
  | _, _, _, _ => False
def wpPopL : D → List D → S → Post → Prop
  | .loc a, [], s, Q => ∃ xs d, s a = some (.lst xs) ∧ xs[xs.length - 1]? = some d ∧ Q d (s.up a (.lst xs.dropLast))
  | _, _, _, _ => False
def wpIndex : D → List D → S → Post → Prop
  | .loc a, [x], s, Q => ∃ xs ds y j, seqAt s a = some xs ∧ xs.mapM (dat s 59) = some ds ∧ dat s 60 x = some y ∧ dataPlace ds y = some j ∧ Q (.int j) s
  | _, _, _, _ => False
def wpRemove : D → List D → S → Post → Prop
  | .loc a, [x], s, Q => ∃ xs ds y j, s a = some (.lst xs) ∧ xs.mapM (dat s 59) = some ds ∧ dat s 60 x = some y ∧ dataPlace ds y = some j ∧ Q .non (s.up a (.lst (xs.eraseIdx j)))
  | _, _, _, _ => False
def wpCountL : D → List D → S → Post → Prop
  | .loc a, [y], s, Q => ∃ xs ds b, seqAt s a = some xs ∧ xs.mapM (dat s 59) = some ds ∧ dat s 60 y = some b ∧ Q (.int (ds.countP fun z => PyData.eqv z b : Nat)) s
  | _, _, _, _ => False
def wpCountT : D → List D → S → Post → Prop
  | .tup xs, [y], s, Q => ∃ ds b, xs.mapM (dat s 59) = some ds ∧ dat s 60 y = some b ∧ Q (.int (ds.countP fun z => PyData.eqv z b : Nat)) s
  | _, _, _, _ => False
def wpCount : D → List D → S → Post → Prop
  | .tup xs, ys, s, Q => wpCountT (.tup xs) ys s Q
  | d, ys, s, Q => wpCountL d ys s Q
def wpGet1 : D → List D → S → Post → Prop
  | .loc a, [k], s, Q => ∃ kvs, s a = some (.dic kvs) ∧ keyOk kvs k = true ∧ Q ((dget kvs k).getD .non) s
  | _, _, _, _ => False
def wpGet2 : D → List D → S → Post → Prop
  | .loc a, [k, d], s, Q => ∃ kvs, s a = some (.dic kvs) ∧ keyOk kvs k = true ∧ Q ((dget kvs k).getD d) s
  | _, _, _, _ => False
def wpMt : Mt → D → List D → S → Post → Prop
  | .append => wpAppend
  | .extend => wpExtend
  | .popAt => wpPopAt
  | .pop => wpPopL
  | .index => wpIndex
  | .remove => wpRemove
  | .count => wpCount
  | .get1 => wpGet1
  | .get2 => wpGet2
/-- what a method is asked of -/
def recvB : Mt → D → S → Bool
  | .get1, .loc a, s => match s a with | some (.dic _) => true | _ => false
  | .get2, .loc a, s => match s a with | some (.dic _) => true | _ => false
  | .count, .tup _, _ => true
  | _, .loc a, s => (seqAt s a).isSome
  | _, _, _ => false
def wpSet : D → D → D → S → (S → Prop) → Prop
  | .loc a, k, v, s, Q => (∃ xs i j, s a = some (.lst xs) ∧ k = .int i ∧ ixOf xs.length i = some j ∧ Q (s.up a (.lst (xs.set j v)))) ∨
      (∃ kvs, s a = some (.dic kvs) ∧ keyOk kvs k = true ∧ kvs.length < lim ∧ Q (s.up a (.dic (dput kvs k v))))
  | _, _, _, _, _ => False

/-! ## what is walked -/
/-- the items, and what must stay true while they are walked -/
abbrev ItP := (S → Prop) → List D → S → Prop
def wpIter : D → S → ItP → Prop
  | .tup xs, s, R => R (fun _ => True) xs s
  | .loc a, s, R => ∃ xs, seqAt s a = some xs ∧ R (fun s' => seqAt s' a = some xs) xs s
  | .str x, s, R => R (fun _ => True) (x.cps.toList.map fun c => .str ⟨#[c]⟩) s
  | _, _, _ => False

/-- a loop over items -/
def forL (chk : S → Prop) (turn : D → Vs → S → (Vs → S → Prop) → Prop) (nx : Vs → S → Prop) : List D → Vs → S → Prop
  | [], ρ, s => chk s ∧ nx ρ s
  | x :: xs, ρ, s => chk s ∧ turn x ρ s fun ρ' s' => ∃ s0 : S, s0.le s' ∧ forL chk turn nx xs ρ' s0
def whileL (test : Vs → S → (Bool → S → Prop) → Prop) (body : Vs → S → (Vs → S → Prop) → Prop) (nx : Vs → S → Prop) : Nat → Vs → S → Prop
  | 0, _, _ => False
  | n + 1, ρ, s => test ρ s fun b s1 => if b = true then body ρ s1 fun ρ' s' => ∃ s0 : S, s0.le s' ∧ whileL test body nx n ρ' s0 else nx ρ s1
/-- a comprehension's loop: p the new list -/
def compL (chk : S → Prop) (p : Nat) (turn : D → S → (Option D → S → Prop) → Prop) (Q : S → Prop) : List D → List D → S → Prop
  | [], acc, s => chk s ∧ s p = some (.lst acc) ∧ Q s
  | x :: xs, acc, s => chk s ∧ turn x s fun y s' => match y with
    | some y => s' p = some (.lst acc) ∧ acc.length < lim ∧ ∃ s0 : S, s0.le (s'.up p (.lst (acc ++ [y]))) ∧ compL chk p turn Q xs (acc ++ [y]) s0
    | none => s' p = some (.lst acc) ∧ ∃ s0 : S, s0.le s' ∧ compL chk p turn Q xs acc s0

abbrev Cs := Nat → List D → S → Post → Prop
/-- a comprehension's target: one name, or a tuple of names -/
def bindC (tg : List Nat) (tup : Bool) (x : D) (ρ : Vs) : Option Vs :=
  if tup then (match x with
    | .tup ys => if ys.length = tg.length then some ((tg.zip ys).foldl (fun r p => r.set p.1 (some p.2)) ρ) else none
    | _ => none)
  else match tg with
    | [i] => some (ρ.set i (some x))
    | _ => none
def wipeV (ρ : Vs) : List Nat → Vs
  | [] => ρ
  | v :: vs => (wipeV ρ vs).set v none

mutual
def wpE (C : Cs) : E → Vs → S → Post → Prop
  | .var i, ρ, s, Q => match ρ.getD i none with | some d => Q d s | none => False
  | .own i, ρ, s, Q => match ρ.getD i none with | some d => Q d s | none => False
  | .mv i, ρ, s, Q => match ρ.getD i none with | some d => Q d s | none => False
  | .int i, _, s, Q => Q (.int i) s
  | .str x, _, s, Q => Q (.str x) s
  | .bl b, _, s, Q => Q (.bl b) s
  | .non, _, s, Q => Q .non s
  | .tup es, ρ, s, Q => wpEs C es ρ s fun xs s1 => Q (.tup xs) s1
  | .lst es, ρ, s, Q => wpEs C es ρ s fun xs s1 => newO (.lst xs) s1 Q
  | .dic ks vs, ρ, s, Q => ∀ p, s p = none → wpEs C vs ρ (s.up p (.dic [])) fun vd s2 => s2 p = some (.dic []) ∧ Q (.loc p) (s2.up p (.dic ((ks.map D.str).zip vd)))
  | .bin op a b, ρ, s, Q => wpE C a ρ s fun x s1 => wpE C b ρ s1 fun y s2 => wpBin op x y s2 Q
  | .neg a, ρ, s, Q => wpE C a ρ s fun x s1 => match x with | .int i => Q (.int (-i)) s1 | _ => False
  | .not a, ρ, s, Q => wpE C a ρ s fun x s1 => match tru s1 x with | some b => Q (.bl (!b)) s1 | none => False
  | .and es, ρ, s, Q => wpAnd C es ρ s Q
  | .or es, ρ, s, Q => wpOr C es ρ s Q
  | .ife c a b, ρ, s, Q => wpT C c ρ s fun t s1 => if t = true then wpE C a ρ s1 Q else wpE C b ρ s1 Q
  | .cmp op a b, ρ, s, Q => wpE C a ρ s fun x s1 => wpE C b ρ s1 fun y s2 => wpCm op x y s2 Q
  | .chain o1 o2 a b c, ρ, s, Q => wpE C a ρ s fun x s1 => wpE C b ρ s1 fun y s2 => wpCm o1 x y s2 fun t s3 => match t with
    | .bl true => wpE C c ρ s3 fun z s4 => wpCm o2 y z s4 Q
    | .bl false => Q (.bl false) s3
    | _ => False
  | .isN n a, ρ, s, Q => wpE C a ρ s fun x s1 => Q (.bl (match x with | .non => !n | _ => n)) s1
  | .call f es, ρ, s, Q => wpEs C es ρ s fun xs s1 => C f xs s1 Q
  | .bi b es, ρ, s, Q => wpEs C es ρ s fun xs s1 => wpBi b xs s1 Q
  | .mt m o es, ρ, s, Q => wpE C o ρ s fun x s1 => recvB m x s1 = true ∧ wpEs C es ρ s1 fun xs s2 => wpMt m x xs s2 Q
  | .ix a b, ρ, s, Q => wpE C a ρ s fun x s1 => wpE C b ρ s1 fun y s2 => wpIx x y s2 Q
  | .sl a lo hi, ρ, s, Q => wpE C a ρ s fun x s1 => wpO C lo ρ s1 fun l s2 => wpO C hi ρ s2 fun h s3 => wpSl x l h s3 Q
  | .val _, _, _, _ => False
  | .rng _, _, _, _ => False
  | .zip _ _, _, _, _ => False
  | .rev _, _, _, _ => False
  | .itm _, _, _, _ => False
  | .vls _, _, _, _ => False
  | .comp el tg tup it cond own, ρ, s, Q => wpI C it ρ s fun chk xs s1 => ∀ p, s1 p = none → compL chk p
      (fun x s2 k => match bindC tg tup x (wipeV ρ own) with
        | none => False
        | some ρ' => wpC C cond ρ' s2 fun b s3 => if b = true then wpE C el ρ' s3 fun y s4 => k (some y) s4 else k none s3)
      (fun s' => Q (.loc p) s') xs [] (s1.up p (.lst []))
  | .comp2 .., _, _, _ => False
def wpEs (C : Cs) : List E → Vs → S → (List D → S → Prop) → Prop
  | [], _, s, Q => Q [] s
  | e :: es, ρ, s, Q => wpE C e ρ s fun x s1 => wpEs C es ρ s1 fun xs s2 => Q (x :: xs) s2
def wpO (C : Cs) : Option E → Vs → S → (Option Int → S → Prop) → Prop
  | none, _, s, Q => Q none s
  | some e, ρ, s, Q => wpE C e ρ s fun x s1 => match x with | .int i => Q (some i) s1 | _ => False
def wpC (C : Cs) : Option E → Vs → S → (Bool → S → Prop) → Prop
  | none, _, s, Q => Q true s
  | some e, ρ, s, Q => wpT C e ρ s Q
def wpAnd (C : Cs) : List E → Vs → S → Post → Prop
  | [], _, _, _ => False
  | [e], ρ, s, Q => wpE C e ρ s Q
  | e :: es, ρ, s, Q => wpE C e ρ s fun x s1 => match x with | .bl true => wpAnd C es ρ s1 Q | .bl false => Q (.bl false) s1 | _ => False
def wpOr (C : Cs) : List E → Vs → S → Post → Prop
  | [], _, _, _ => False
  | [e], ρ, s, Q => wpE C e ρ s Q
  | e :: es, ρ, s, Q => wpE C e ρ s fun x s1 => match x with | .bl true => Q (.bl true) s1 | .bl false => wpOr C es ρ s1 Q | _ => False
def wpT (C : Cs) : E → Vs → S → (Bool → S → Prop) → Prop
  | .not a, ρ, s, Q => wpT C a ρ s fun b s1 => Q (!b) s1
  | .and es, ρ, s, Q => wpAndT C es ρ s Q
  | .or es, ρ, s, Q => wpOrT C es ρ s Q
  | .ife c a b, ρ, s, Q => wpT C c ρ s fun t s1 => if t = true then wpT C a ρ s1 Q else wpT C b ρ s1 Q
  | .isN n a, ρ, s, Q => wpE C a ρ s fun x s1 => Q (match x with | .non => !n | _ => n) s1
  | .chain o1 o2 a b c, ρ, s, Q => wpE C a ρ s fun x s1 => wpE C b ρ s1 fun y s2 => wpCm o1 x y s2 fun t s3 => match t with
    | .bl true => wpE C c ρ s3 fun z s4 => wpCm o2 y z s4 fun t s5 => match t with | .bl b => Q b s5 | _ => False
    | .bl false => Q false s3
    | _ => False
  | .cmp op a b, ρ, s, Q => wpE C a ρ s fun x s1 => wpE C b ρ s1 fun y s2 => wpCm op x y s2 fun t s3 => match t with | .bl b => Q b s3 | _ => False
  | .val e, ρ, s, Q => wpE C e ρ s fun x s1 => match tru s1 x with | some b => Q b s1 | none => False
  | _, _, _, _ => False
def wpAndT (C : Cs) : List E → Vs → S → (Bool → S → Prop) → Prop
  | [], _, _, _ => False
  | [e], ρ, s, Q => wpT C e ρ s Q
  | e :: es, ρ, s, Q => wpT C e ρ s fun b s1 => if b = true then wpAndT C es ρ s1 Q else Q false s1
def wpOrT (C : Cs) : List E → Vs → S → (Bool → S → Prop) → Prop
  | [], _, _, _ => False
  | [e], ρ, s, Q => wpT C e ρ s Q
  | e :: es, ρ, s, Q => wpT C e ρ s fun b s1 => if b = true then Q true s1 else wpOrT C es ρ s1 Q
/-- what is walked -/
def wpI (C : Cs) : E → Vs → S → ItP → Prop
  | .rng es, ρ, s, R => wpEs C es ρ s fun xs s1 => match rngOf xs with
    | some r => R (fun _ => True) (rangeL r.1 r.2.1 r.2.2) s1
    | none => False
  | .zip a b, ρ, s, R => wpE C a ρ s fun x s1 => wpE C b ρ s1 fun y s2 => match itemsOf s2 x, itemsOf s2 y with
    | some xs, some ys => R (fun s' => itemsOf s' x = some xs ∧ itemsOf s' y = some ys) ((xs.zip ys).map fun p => .tup [p.1, p.2]) s2
    | _, _ => False
  | .rev a, ρ, s, R => wpE C a ρ s fun x s1 => match itemsOf s1 x with
    | some xs => R (fun s' => itemsOf s' x = some xs) xs.reverse s1
    | none => False
  | .itm a, ρ, s, R => wpE C a ρ s fun x s1 => match x with
    | .loc l => ∃ kvs, s1 l = some (.dic kvs) ∧ R (fun s' => s' l = some (.dic kvs)) (kvs.map fun kv => .tup [kv.1, kv.2]) s1
    | _ => False
  | .val e, ρ, s, R => wpE C e ρ s fun x s1 => wpIter x s1 R
  | _, _, _, _ => False
end
example (C : Cs) (ρ : Vs) (s : S) (Q : Post) : wpE C (.int 3) ρ s Q = Q (.int 3) s := rfl
end PL
end

section
set_option autoImplicit false
set_option linter.all false
namespace PL
open PySem

mutual
def wpTg (C : Cs) : Tg → D → Vs → S → (Vs → S → Prop) → Prop
  | .name i, d, ρ, s, k => k (ρ.set i (some d)) s
  | .own i, d, ρ, s, k => k (ρ.set i (some d)) s
  | .tup ts, d, ρ, s, k => match d with
    | .tup ds => ds.length = ts.length ∧ wpTgs C ts ds ρ s k
    | _ => False
  | .sub o i, d, ρ, s, k => wpE C o ρ s fun x s1 => wpE C i ρ s1 fun y s2 => wpSet x y d s2 fun s3 => k ρ s3
def wpTgs (C : Cs) : List Tg → List D → Vs → S → (Vs → S → Prop) → Prop
  | [], [], ρ, s, k => k ρ s
  | t :: ts, d :: ds, ρ, s, k => wpTg C t d ρ s fun ρ' s' => wpTgs C ts ds ρ' s' k
  | _, _, _, _, _ => False
end

structure Ds where
  nx : Vs → S → Prop
  rt : D → S → Prop
  bk : Vs → S → Prop
  ct : Vs → S → Prop

def wpAug : Op → D → D → S → Post → Prop
  | .add, .int i, .int j, s, Q => Q (.int (i + j)) s
  | .sub, .int i, .int j, s, Q => Q (.int (i - j)) s
  | _, _, _, _, _ => False

/-- a subscript without its place in a text: lists and dicts -/
def wpGet : D → D → S → Post → Prop
  | .loc a, k, s, Q => wpIx (.loc a) k s Q
  | _, _, _, _ => False
mutual
def wpS (C : Cs) : St → Ds → Vs → S → Prop
  | .asg tg e, K, ρ, s => wpE C e ρ s fun d s1 => wpTg C tg d ρ s1 K.nx
  | .aug i op e, K, ρ, s => match ρ.getD i none with
    | some x => wpE C e ρ s fun y s1 => wpAug op x y s1 fun z s2 => K.nx (ρ.set i (some z)) s2
    | none => False
  | .augS o i op e, K, ρ, s => wpE C o ρ s fun x s1 => wpE C i ρ s1 fun y s2 => wpGet x y s2 fun v s3 => wpE C e ρ s3 fun z s4 => wpAug op v z s4 fun u s5 => wpSet x y u s5 fun s6 => K.nx ρ s6
  | .ife c a b, K, ρ, s => wpT C c ρ s fun t s1 => if t = true then wpSs C a K ρ s1 else wpSs C b K ρ s1
  | .for tg it body, K, ρ, s => wpI C it ρ s fun chk xs s1 =>
      forL chk (fun x ρ s k => wpTg C tg x ρ s fun ρ2 s2 => wpSs C body ⟨k, K.rt, K.nx, k⟩ ρ2 s2) K.nx xs ρ s1
  | .while c body, K, ρ, s => ∃ n, whileL (fun ρ s k => wpT C c ρ s k) (fun ρ s k => wpSs C body ⟨k, K.rt, K.nx, k⟩ ρ s) K.nx n ρ s
  | .ret e, K, ρ, s => wpE C e ρ s K.rt
  | .retN, K, _, s => K.rt .non s
  | .expr e, K, ρ, s => wpE C e ρ s fun _ s1 => K.nx ρ s1
  | .pass, K, ρ, s => K.nx ρ s
  | .brk, K, ρ, s => K.bk ρ s
  | .cont, K, ρ, s => K.ct ρ s
def wpSs (C : Cs) : List St → Ds → Vs → S → Prop
  | [], K, ρ, s => K.nx ρ s
  | st :: r, K, ρ, s => wpS C st ⟨fun ρ' s' => wpSs C r K ρ' s', K.rt, K.bk, K.ct⟩ ρ s
end

structure Fn where
  np : Nat
  nl : Nat
  body : List St
abbrev Prog := List Fn
def startV (f : Fn) (args : List D) : Vs := args.map some ++ List.replicate (f.nl - args.length) none
def retD (Q : Post) : Ds := ⟨fun _ s => ∃ s0 : S, s0.le s ∧ Q .non s0, fun d s => ∃ s0 : S, s0.le s ∧ Q d s0, fun _ _ => False, fun _ _ => False⟩
def wpF (P : Prog) : Nat → Cs
  | 0, _, _, _, _ => False
  | k + 1, i, args, s, Q => match P[i]? with
    | some f => args.length = f.np ∧ wpSs (wpF P k) f.body (retD Q) (startV f args) s
    | none => False

/-! ## monotone -/
section
variable {Q Q' : Post}
theorem newO_mono {o : O} {s : S} (hQ : ∀ d s, Q d s → Q' d s) (h : newO o s Q) : newO o s Q' := fun p hp => hQ _ _ (h p hp)
local macro_rules | `(tactic| trivial) => `(tactic| (repeat' first | exact fun h => h | exact (fun h => ‹∀ d s, _ → _› _ _ h) | exact (fun h => ‹∀ s, _ → _› _ h) | exact newO_mono (by assumption) | exact (fun h d h1 h2 => ‹∀ d s, _ → _› _ _ (h d h1 h2)) | refine And.imp ?_ ?_ | refine Exists.imp (fun _ => ?_) | refine Or.imp ?_ ?_))
theorem wpBin_mono {op : Op} {x y : D} {s : S} (hQ : ∀ d s, Q d s → Q' d s) : wpBin op x y s Q → wpBin op x y s Q' := by
  unfold wpBin
  split <;> trivial
theorem wpCm_mono {op : Cm} {x y : D} {s : S} (hQ : ∀ d s, Q d s → Q' d s) : wpCm op x y s Q → wpCm op x y s Q' := by
  unfold wpCm
  split <;> trivial
theorem wpBi_mono {b : Bi} {xs : List D} {s : S} (hQ : ∀ d s, Q d s → Q' d s) : wpBi b xs s Q → wpBi b xs s Q' := by
  cases b <;> simp only [wpBi]
  case len =>
    unfold wpLen
    split
    · trivial
    · trivial
    · split <;> trivial
    · trivial
  case abs =>
    unfold wpAbs
    split <;> trivial
  case int =>
    unfold wpInt
    split <;> trivial
  case list =>
    unfold wpList
    split <;> trivial
  case tuple =>
    unfold wpTuple
    split <;> trivial
  case sorted =>
    unfold wpSorted
    split <;> trivial
  case sum =>
    unfold wpSum
    split <;> trivial
  case all =>
    unfold wpAllB
    split <;> trivial
  case any =>
    unfold wpAnyB
    split <;> trivial
  case max =>
    unfold wpMax
    split <;> trivial
  case min =>
    unfold wpMin
    split <;> trivial
  case dict =>
    unfold wpDict
    split <;> trivial
  case isi =>
    unfold wpIsi
    split <;> trivial
  case str =>
    unfold wpStr
    split <;> trivial
  case listR =>
    unfold wpListR
    trivial
  case tupleR =>
    unfold wpTupleR
    trivial
  case sortedRev =>
    unfold wpSorted
    split <;> trivial
  all_goals exact fun h => h
theorem wpIx_mono {x y : D} {s : S} (hQ : ∀ d s, Q d s → Q' d s) : wpIx x y s Q → wpIx x y s Q' := by
  unfold wpIx
  split <;> trivial
theorem wpGet_mono {x y : D} {s : S} (hQ : ∀ d s, Q d s → Q' d s) : wpGet x y s Q → wpGet x y s Q' := by
  unfold wpGet
  split
  · exact wpIx_mono hQ
  · exact fun h => h
theorem wpSl_mono {x : D} {l u : Option Int} {s : S} (hQ : ∀ d s, Q d s → Q' d s) : wpSl x l u s Q → wpSl x l u s Q' := by
  unfold wpSl
  split <;> trivial
theorem wpCountT_mono {x : D} {xs : List D} {s : S} (hQ : ∀ d s, Q d s → Q' d s) : wpCountT x xs s Q → wpCountT x xs s Q' := by
  unfold wpCountT
  split <;> trivial
theorem wpCountL_mono {x : D} {xs : List D} {s : S} (hQ : ∀ d s, Q d s → Q' d s) : wpCountL x xs s Q → wpCountL x xs s Q' := by
  unfold wpCountL
  split <;> trivial
theorem wpMt_mono {m : Mt} {x : D} {xs : List D} {s : S} (hQ : ∀ d s, Q d s → Q' d s) : wpMt m x xs s Q → wpMt m x xs s Q' := by
  cases m <;> simp only [wpMt]
  case append =>
    unfold wpAppend
    split <;> trivial
  case extend =>
    unfold wpExtend
    split <;> trivial
  case popAt =>
    unfold wpPopAt
    split <;> trivial
  case pop =>
    unfold wpPopL
    split <;> trivial
  case index =>
    unfold wpIndex
    split <;> trivial
  case remove =>
    unfold wpRemove
    split <;> trivial
  case count =>
    unfold wpCount
    split
    · exact wpCountT_mono hQ
    · exact wpCountL_mono hQ
  case get1 =>
    unfold wpGet1
    split <;> trivial
  case get2 =>
    unfold wpGet2
    split <;> trivial
theorem wpAug_mono {op : Op} {x y : D} {s : S} (hQ : ∀ d s, Q d s → Q' d s) : wpAug op x y s Q → wpAug op x y s Q' := by
  unfold wpAug
  split <;> trivial
theorem wpSet_mono {x k v : D} {s : S} {R R' : S → Prop} (hQ : ∀ s, R s → R' s) : wpSet x k v s R → wpSet x k v s R' := by
  unfold wpSet
  split <;> trivial
theorem wpIter_mono {x : D} {s : S} {R R' : ItP} (hQ : ∀ c xs s, R c xs s → R' c xs s) : wpIter x s R → wpIter x s R' := by
  unfold wpIter
  split
  · exact hQ _ _ _
  · exact Exists.imp fun _ => And.imp id (hQ _ _ _)
  · exact hQ _ _ _
  · exact id
end
end PL
end

section
set_option autoImplicit false
set_option linter.all false
set_option maxHeartbeats 4000000
namespace PL
open PySem
def CsLe (C C' : Cs) : Prop := ∀ f xs s (Q Q' : Post), (∀ d s, Q d s → Q' d s) → C f xs s Q → C' f xs s Q'

theorem compL_mono {chk : S → Prop} {p : Nat} {t t' : D → S → (Option D → S → Prop) → Prop} {Q Q' : S → Prop} (ht : ∀ x s k k', (∀ y s, k y s → k' y s) → t x s k → t' x s k') (hQ : ∀ s, Q s → Q' s) :
    ∀ xs acc s, compL chk p t Q xs acc s → compL chk p t' Q' xs acc s
  | [], acc, s, h => ⟨h.1, h.2.1, hQ _ h.2.2⟩
  | x :: xs, acc, s, h => ⟨h.1, ht _ _ _ _ (fun y s' h' => by
      cases y with
      | none => exact ⟨h'.1, h'.2.imp fun s0 h0 => ⟨h0.1, compL_mono ht hQ xs acc s0 h0.2⟩⟩
      | some y => exact ⟨h'.1, h'.2.1, h'.2.2.imp fun s0 h0 => ⟨h0.1, compL_mono ht hQ xs _ s0 h0.2⟩⟩) h.2⟩
theorem forL_mono {chk : S → Prop} {t t' : D → Vs → S → (Vs → S → Prop) → Prop} {nx nx' : Vs → S → Prop} (ht : ∀ x ρ s k k', (∀ ρ s, k ρ s → k' ρ s) → t x ρ s k → t' x ρ s k') (hQ : ∀ ρ s, nx ρ s → nx' ρ s) :
    ∀ xs ρ s, forL chk t nx xs ρ s → forL chk t' nx' xs ρ s
  | [], ρ, s, h => ⟨h.1, hQ _ _ h.2⟩
  | x :: xs, ρ, s, h => ⟨h.1, ht _ _ _ _ _ (fun ρ' s' h' => h'.imp fun s0 h0 => ⟨h0.1, forL_mono ht hQ xs ρ' s0 h0.2⟩) h.2⟩
theorem whileL_mono {c c' : Vs → S → (Bool → S → Prop) → Prop} {b b' : Vs → S → (Vs → S → Prop) → Prop} {nx nx' : Vs → S → Prop} (hc : ∀ ρ s k k', (∀ x s, k x s → k' x s) → c ρ s k → c' ρ s k')
    (hb : ∀ ρ s k k', (∀ ρ s, k ρ s → k' ρ s) → b ρ s k → b' ρ s k') (hQ : ∀ ρ s, nx ρ s → nx' ρ s) : ∀ n ρ s, whileL c b nx n ρ s → whileL c' b' nx' n ρ s
  | 0, _, _, h => h.elim
  | n + 1, ρ, s, h => hc _ _ _ _ (fun x s1 h1 => by
      cases x with
      | true => exact hb _ _ _ _ (fun ρ' s' h' => h'.imp fun s0 h0 => ⟨h0.1, whileL_mono hc hb hQ n ρ' s0 h0.2⟩) h1
      | false => exact hQ _ _ h1) h

mutual
theorem wpE_mono {C C' : Cs} (hC : CsLe C C') : ∀ (e : E) {ρ : Vs} {s : S} {Q Q' : Post}, (∀ d s, Q d s → Q' d s) → wpE C e ρ s Q → wpE C' e ρ s Q'
  | .var i, ρ, s, Q, Q', hQ, h => by
    simp only [wpE] at h ⊢
    split at h
    · exact hQ _ _ h
    · exact h
  | .own i, ρ, s, Q, Q', hQ, h => by
    simp only [wpE] at h ⊢
    split at h
    · exact hQ _ _ h
    · exact h
  | .mv i, ρ, s, Q, Q', hQ, h => by
    simp only [wpE] at h ⊢
    split at h
    · exact hQ _ _ h
    · exact h
  | .int i, ρ, s, Q, Q', hQ, h => hQ _ _ h
  | .str x, ρ, s, Q, Q', hQ, h => hQ _ _ h
  | .bl b, ρ, s, Q, Q', hQ, h => hQ _ _ h
  | .non, ρ, s, Q, Q', hQ, h => hQ _ _ h
  | .tup es, ρ, s, Q, Q', hQ, h => by
    simp only [wpE] at h ⊢
    exact wpEs_mono hC es (fun xs s1 h1 => hQ _ _ h1) h
  | .lst es, ρ, s, Q, Q', hQ, h => by
    simp only [wpE] at h ⊢
    exact wpEs_mono hC es (fun xs s1 h1 => newO_mono hQ h1) h
  | .dic ks vs, ρ, s, Q, Q', hQ, h => by
    simp only [wpE] at h ⊢
    exact fun p hp => wpEs_mono hC vs (fun ys s2 h2 => ⟨h2.1, hQ _ _ h2.2⟩) (h p hp)
  | .bin op a b, ρ, s, Q, Q', hQ, h => by
    simp only [wpE] at h ⊢
    exact wpE_mono hC a (fun x s1 h1 => wpE_mono hC b (fun y s2 h2 => wpBin_mono hQ h2) h1) h
  | .neg a, ρ, s, Q, Q', hQ, h => by
    simp only [wpE] at h ⊢
    refine wpE_mono hC a (fun x s1 h1 => ?_) h
    split at h1
    · exact hQ _ _ h1
    · exact h1
  | .not a, ρ, s, Q, Q', hQ, h => by
    simp only [wpE] at h ⊢
    refine wpE_mono hC a (fun x s1 h1 => ?_) h
    split at h1
    · exact hQ _ _ h1
    · exact h1
  | .and es, ρ, s, Q, Q', hQ, h => by
    simp only [wpE] at h ⊢
    exact wpAnd_mono hC es hQ h
  | .or es, ρ, s, Q, Q', hQ, h => by
    simp only [wpE] at h ⊢
    exact wpOr_mono hC es hQ h
  | .ife c a b, ρ, s, Q, Q', hQ, h => by
    simp only [wpE] at h ⊢
    refine wpT_mono hC c (fun t s1 h1 => ?_) h
    cases t with
    | true => exact wpE_mono hC a hQ h1
    | false => exact wpE_mono hC b hQ h1
  | .cmp op a b, ρ, s, Q, Q', hQ, h => by
    simp only [wpE] at h ⊢
    exact wpE_mono hC a (fun x s1 h1 => wpE_mono hC b (fun y s2 h2 => wpCm_mono hQ h2) h1) h
  | .chain o1 o2 a b c, ρ, s, Q, Q', hQ, h => by
    simp only [wpE] at h ⊢
    refine wpE_mono hC a (fun x s1 h1 => wpE_mono hC b (fun y s2 h2 => wpCm_mono (fun t s3 h3 => ?_) h2) h1) h
    split at h3
    · exact wpE_mono hC c (fun z s4 h4 => wpCm_mono hQ h4) h3
    · exact hQ _ _ h3
    · exact h3
  | .isN n a, ρ, s, Q, Q', hQ, h => by
    simp only [wpE] at h ⊢
    exact wpE_mono hC a (fun x s1 h1 => hQ _ _ h1) h
  | .call f es, ρ, s, Q, Q', hQ, h => by
    simp only [wpE] at h ⊢
    exact wpEs_mono hC es (fun xs s1 h1 => hC _ _ _ _ _ hQ h1) h
  | .bi b es, ρ, s, Q, Q', hQ, h => by
    simp only [wpE] at h ⊢
    exact wpEs_mono hC es (fun xs s1 h1 => wpBi_mono hQ h1) h
  | .mt m o es, ρ, s, Q, Q', hQ, h => by
    simp only [wpE] at h ⊢
    exact wpE_mono hC o (fun x s1 h1 => ⟨h1.1, wpEs_mono hC es (fun xs s2 h2 => wpMt_mono hQ h2) h1.2⟩) h
  | .ix a b, ρ, s, Q, Q', hQ, h => by
    simp only [wpE] at h ⊢
    exact wpE_mono hC a (fun x s1 h1 => wpE_mono hC b (fun y s2 h2 => wpIx_mono hQ h2) h1) h
  | .sl a lo hi, ρ, s, Q, Q', hQ, h => by
    simp only [wpE] at h ⊢
    exact wpE_mono hC a (fun x s1 h1 => wpO_mono hC lo (fun l s2 h2 => wpO_mono hC hi (fun u s3 h3 => wpSl_mono hQ h3) h2) h1) h
  | .val _, _, _, _, _, _, h => by simp only [wpE] at h
  | .rng _, _, _, _, _, _, h => by simp only [wpE] at h
  | .zip _ _, _, _, _, _, _, h => by simp only [wpE] at h
  | .rev _, _, _, _, _, _, h => by simp only [wpE] at h
  | .itm _, _, _, _, _, _, h => by simp only [wpE] at h
  | .vls _, _, _, _, _, _, h => by simp only [wpE] at h
  | .comp el tg tup it cond own, ρ, s, Q, Q', hQ, h => by
    simp only [wpE] at h ⊢
    refine wpI_mono hC it (fun chk xs s1 h1 => fun p hp => ?_) h
    refine compL_mono (fun x s2 k k' hk h2 => ?_) (fun s' h' => hQ _ _ h') _ _ _ (h1 p hp)
    split at h2
    · exact h2
    · refine wpC_mono hC cond (fun b s3 h3 => ?_) h2
      cases b with
      | true => exact wpE_mono hC el (fun y s4 h4 => hk _ _ h4) h3
      | false => exact hk _ _ h3
  | .comp2 .., _, _, _, _, _, h => by simp only [wpE] at h
theorem wpEs_mono {C C' : Cs} (hC : CsLe C C') : ∀ (es : List E) {ρ : Vs} {s : S} {Q Q' : List D → S → Prop}, (∀ d s, Q d s → Q' d s) → wpEs C es ρ s Q → wpEs C' es ρ s Q'
  | [], ρ, s, Q, Q', hQ, h => hQ _ _ h
  | e :: es, ρ, s, Q, Q', hQ, h => by
    simp only [wpEs] at h ⊢
    exact wpE_mono hC e (fun x s1 h1 => wpEs_mono hC es (fun xs s2 h2 => hQ _ _ h2) h1) h
theorem wpO_mono {C C' : Cs} (hC : CsLe C C') : ∀ (o : Option E) {ρ : Vs} {s : S} {Q Q' : Option Int → S → Prop}, (∀ d s, Q d s → Q' d s) → wpO C o ρ s Q → wpO C' o ρ s Q'
  | none, ρ, s, Q, Q', hQ, h => by
    simp only [wpO] at h ⊢
    exact hQ _ _ h
  | some e, ρ, s, Q, Q', hQ, h => by
    simp only [wpO] at h ⊢
    refine wpE_mono hC e (fun x s1 h1 => ?_) h
    split at h1
    · exact hQ _ _ h1
    · exact h1
theorem wpC_mono {C C' : Cs} (hC : CsLe C C') : ∀ (o : Option E) {ρ : Vs} {s : S} {Q Q' : Bool → S → Prop}, (∀ d s, Q d s → Q' d s) → wpC C o ρ s Q → wpC C' o ρ s Q'
  | none, ρ, s, Q, Q', hQ, h => by
    simp only [wpC] at h ⊢
    exact hQ _ _ h
  | some e, ρ, s, Q, Q', hQ, h => by
    simp only [wpC] at h ⊢
    exact wpT_mono hC e hQ h
theorem wpAnd_mono {C C' : Cs} (hC : CsLe C C') : ∀ (es : List E) {ρ : Vs} {s : S} {Q Q' : Post}, (∀ d s, Q d s → Q' d s) → wpAnd C es ρ s Q → wpAnd C' es ρ s Q'
  | [], ρ, s, Q, Q', hQ, h => by simp only [wpAnd] at h
  | [e], ρ, s, Q, Q', hQ, h => by
    simp only [wpAnd] at h ⊢
    exact wpE_mono hC e hQ h
  | e :: e' :: es, ρ, s, Q, Q', hQ, h => by
    simp only [wpAnd] at h ⊢
    refine wpE_mono hC e (fun x s1 h1 => ?_) h
    split at h1
    · exact wpAnd_mono hC (e' :: es) hQ h1
    · exact hQ _ _ h1
    · exact h1
theorem wpOr_mono {C C' : Cs} (hC : CsLe C C') : ∀ (es : List E) {ρ : Vs} {s : S} {Q Q' : Post}, (∀ d s, Q d s → Q' d s) → wpOr C es ρ s Q → wpOr C' es ρ s Q'
  | [], ρ, s, Q, Q', hQ, h => by simp only [wpOr] at h
  | [e], ρ, s, Q, Q', hQ, h => by
    simp only [wpOr] at h ⊢
    exact wpE_mono hC e hQ h
  | e :: e' :: es, ρ, s, Q, Q', hQ, h => by
    simp only [wpOr] at h ⊢
    refine wpE_mono hC e (fun x s1 h1 => ?_) h
    split at h1
    · exact hQ _ _ h1
    · exact wpOr_mono hC (e' :: es) hQ h1
    · exact h1
theorem wpT_mono {C C' : Cs} (hC : CsLe C C') : ∀ (e : E) {ρ : Vs} {s : S} {Q Q' : Bool → S → Prop}, (∀ d s, Q d s → Q' d s) → wpT C e ρ s Q → wpT C' e ρ s Q' := fun e => by
  intro ρ s Q Q' hQ h
  unfold wpT at h ⊢
  split at h
  · next a => exact wpT_mono hC a (fun b s1 h1 => hQ _ _ h1) h
  · next es => exact wpAndT_mono hC es hQ h
  · next es => exact wpOrT_mono hC es hQ h
  · next c a b =>
    refine wpT_mono hC c (fun t s1 h1 => ?_) h
    cases t with
    | true => exact wpT_mono hC a hQ h1
    | false => exact wpT_mono hC b hQ h1
  · next n a => exact wpE_mono hC a (fun x s1 h1 => hQ _ _ h1) h
  · next o1 o2 a b c =>
    refine wpE_mono hC a (fun x s1 h1 => wpE_mono hC b (fun y s2 h2 => wpCm_mono (fun t s3 h3 => ?_) h2) h1) h
    split at h3
    · refine wpE_mono hC c (fun z s4 h4 => wpCm_mono (fun t s5 h5 => ?_) h4) h3
      split at h5
      · exact hQ _ _ h5
      · exact h5
    · exact hQ _ _ h3
    · exact h3
  · next op a b =>
    refine wpE_mono hC a (fun x s1 h1 => wpE_mono hC b (fun y s2 h2 => wpCm_mono (fun t s3 h3 => ?_) h2) h1) h
    split at h3
    · exact hQ _ _ h3
    · exact h3
  · next e =>
    refine wpE_mono hC e (fun x s1 h1 => ?_) h
    split at h1
    · exact hQ _ _ h1
    · exact h1
  · exact h
theorem wpAndT_mono {C C' : Cs} (hC : CsLe C C') : ∀ (es : List E) {ρ : Vs} {s : S} {Q Q' : Bool → S → Prop}, (∀ d s, Q d s → Q' d s) → wpAndT C es ρ s Q → wpAndT C' es ρ s Q'
  | [], ρ, s, Q, Q', hQ, h => by simp only [wpAndT] at h
  | [e], ρ, s, Q, Q', hQ, h => by
    simp only [wpAndT] at h ⊢
    exact wpT_mono hC e hQ h
  | e :: e' :: es, ρ, s, Q, Q', hQ, h => by
    simp only [wpAndT] at h ⊢
    refine wpT_mono hC e (fun x s1 h1 => ?_) h
    cases x with
    | true => exact wpAndT_mono hC (e' :: es) hQ h1
    | false => exact hQ _ _ h1
theorem wpOrT_mono {C C' : Cs} (hC : CsLe C C') : ∀ (es : List E) {ρ : Vs} {s : S} {Q Q' : Bool → S → Prop}, (∀ d s, Q d s → Q' d s) → wpOrT C es ρ s Q → wpOrT C' es ρ s Q'
  | [], ρ, s, Q, Q', hQ, h => by simp only [wpOrT] at h
  | [e], ρ, s, Q, Q', hQ, h => by
    simp only [wpOrT] at h ⊢
    exact wpT_mono hC e hQ h
  | e :: e' :: es, ρ, s, Q, Q', hQ, h => by
    simp only [wpOrT] at h ⊢
    refine wpT_mono hC e (fun x s1 h1 => ?_) h
    cases x with
    | true => exact hQ _ _ h1
    | false => exact wpOrT_mono hC (e' :: es) hQ h1
theorem wpI_mono {C C' : Cs} (hC : CsLe C C') : ∀ (e : E) {ρ : Vs} {s : S} {R R' : ItP}, (∀ c xs s, R c xs s → R' c xs s) → wpI C e ρ s R → wpI C' e ρ s R' := fun e => by
  intro ρ s R R' hR h
  unfold wpI at h ⊢
  split at h
  · next es =>
    refine wpEs_mono hC es (fun xs s1 h1 => ?_) h
    split at h1
    · exact hR _ _ _ h1
    · exact h1
  · next a b =>
    refine wpE_mono hC a (fun x s1 h1 => wpE_mono hC b (fun y s2 h2 => ?_) h1) h
    split at h2
    · exact hR _ _ _ h2
    · exact h2
  · next a =>
    refine wpE_mono hC a (fun x s1 h1 => ?_) h
    split at h1
    · exact hR _ _ _ h1
    · exact h1
  · next a =>
    refine wpE_mono hC a (fun x s1 h1 => ?_) h
    split at h1
    · exact h1.imp fun kvs h2 => ⟨h2.1, hR _ _ _ h2.2⟩
    · exact h1
  · next e => exact wpE_mono hC e (fun x s1 h1 => wpIter_mono hR h1) h
  · exact h
end
end PL
end

section
set_option autoImplicit false
set_option linter.all false
set_option maxHeartbeats 4000000
namespace PL
open PySem
structure DsLe (K K' : Ds) : Prop where
  nx : ∀ ρ s, K.nx ρ s → K'.nx ρ s
  rt : ∀ d s, K.rt d s → K'.rt d s
  bk : ∀ ρ s, K.bk ρ s → K'.bk ρ s
  ct : ∀ ρ s, K.ct ρ s → K'.ct ρ s
mutual
theorem wpTg_mono {C C' : Cs} (hC : CsLe C C') : ∀ (t : Tg) {d : D} {ρ : Vs} {s : S} {k k' : Vs → S → Prop}, (∀ ρ s, k ρ s → k' ρ s) → wpTg C t d ρ s k → wpTg C' t d ρ s k'
  | .name i, d, ρ, s, k, k', hk, h => by
    simp only [wpTg] at h ⊢
    exact hk _ _ h
  | .own i, d, ρ, s, k, k', hk, h => by
    simp only [wpTg] at h ⊢
    exact hk _ _ h
  | .tup ts, d, ρ, s, k, k', hk, h => by
    simp only [wpTg] at h ⊢
    split at h
    · exact ⟨h.1, wpTgs_mono hC ts hk h.2⟩
    · exact h
  | .sub o i, d, ρ, s, k, k', hk, h => by
    simp only [wpTg] at h ⊢
    exact wpE_mono hC o (fun x s1 h1 => wpE_mono hC i (fun y s2 h2 => wpSet_mono (fun s3 h3 => hk _ _ h3) h2) h1) h
theorem wpTgs_mono {C C' : Cs} (hC : CsLe C C') : ∀ (ts : List Tg) {ds : List D} {ρ : Vs} {s : S} {k k' : Vs → S → Prop}, (∀ ρ s, k ρ s → k' ρ s) → wpTgs C ts ds ρ s k → wpTgs C' ts ds ρ s k'
  | [], [], ρ, s, k, k', hk, h => by
    simp only [wpTgs] at h ⊢
    exact hk _ _ h
  | t :: ts, d :: ds, ρ, s, k, k', hk, h => by
    simp only [wpTgs] at h ⊢
    exact wpTg_mono hC t (fun ρ' s' h' => wpTgs_mono hC ts hk h') h
  | [], _ :: _, ρ, s, k, k', hk, h => by simp only [wpTgs] at h
  | _ :: _, [], ρ, s, k, k', hk, h => by simp only [wpTgs] at h
end
mutual
theorem wpS_mono {C C' : Cs} (hC : CsLe C C') : ∀ (st : St) {K K' : Ds} {ρ : Vs} {s : S}, DsLe K K' → wpS C st K ρ s → wpS C' st K' ρ s
  | .asg tg e, K, K', ρ, s, hK, h => by
    simp only [wpS] at h ⊢
    exact wpE_mono hC e (fun x s1 h1 => wpTg_mono hC tg hK.nx h1) h
  | .aug i op e, K, K', ρ, s, hK, h => by
    simp only [wpS] at h ⊢
    split at h
    · exact wpE_mono hC e (fun x s1 h1 => wpAug_mono (fun z s2 h2 => hK.nx _ _ h2) h1) h
    · exact h
  | .augS o i op e, K, K', ρ, s, hK, h => by
    simp only [wpS] at h ⊢
    exact wpE_mono hC o (fun x s1 h1 => wpE_mono hC i (fun y s2 h2 => wpGet_mono (fun v s3 h3 => wpE_mono hC e (fun z s4 h4 => wpAug_mono (fun u s5 h5 => wpSet_mono (fun s6 h6 => hK.nx _ _ h6) h5) h4) h3) h2) h1) h
  | .ife c a b, K, K', ρ, s, hK, h => by
    simp only [wpS] at h ⊢
    refine wpT_mono hC c (fun t s1 h1 => ?_) h
    cases t with
    | true => exact wpSs_mono hC a hK h1
    | false => exact wpSs_mono hC b hK h1
  | .for tg it body, K, K', ρ, s, hK, h => by
    simp only [wpS] at h ⊢
    refine wpI_mono hC it (fun chk xs s1 h1 => ?_) h
    exact forL_mono (fun x ρ s k k' hk h2 => wpTg_mono hC tg (fun ρ2 s2 h3 => wpSs_mono hC body (show DsLe ⟨k, K.rt, K.nx, k⟩ ⟨k', K'.rt, K'.nx, k'⟩ from ⟨hk, hK.rt, hK.nx, hk⟩) h3) h2) hK.nx xs ρ s1 h1
  | .while c body, K, K', ρ, s, hK, h => by
    simp only [wpS] at h ⊢
    obtain ⟨n, h⟩ := h
    refine ⟨n, whileL_mono ?_ ?_ hK.nx n ρ s h⟩
    · intro ρ s k k' hk h2
      exact wpT_mono hC c hk h2
    · intro ρ s k k' hk h2
      exact wpSs_mono hC body (show DsLe ⟨k, K.rt, K.nx, k⟩ ⟨k', K'.rt, K'.nx, k'⟩ from ⟨hk, hK.rt, hK.nx, hk⟩) h2
  | .ret e, K, K', ρ, s, hK, h => by
    simp only [wpS] at h ⊢
    exact wpE_mono hC e hK.rt h
  | .retN, K, K', ρ, s, hK, h => by
    simp only [wpS] at h ⊢
    exact hK.rt _ _ h
  | .expr e, K, K', ρ, s, hK, h => by
    simp only [wpS] at h ⊢
    exact wpE_mono hC e (fun _ s1 h1 => hK.nx _ _ h1) h
  | .pass, K, K', ρ, s, hK, h => by
    simp only [wpS] at h ⊢
    exact hK.nx _ _ h
  | .brk, K, K', ρ, s, hK, h => by
    simp only [wpS] at h ⊢
    exact hK.bk _ _ h
  | .cont, K, K', ρ, s, hK, h => by
    simp only [wpS] at h ⊢
    exact hK.ct _ _ h
theorem wpSs_mono {C C' : Cs} (hC : CsLe C C') : ∀ (st : List St) {K K' : Ds} {ρ : Vs} {s : S}, DsLe K K' → wpSs C st K ρ s → wpSs C' st K' ρ s
  | [], K, K', ρ, s, hK, h => by
    simp only [wpSs] at h ⊢
    exact hK.nx _ _ h
  | st :: r, K, K', ρ, s, hK, h => by
    simp only [wpSs] at h ⊢
    exact wpS_mono hC st (show DsLe ⟨fun ρ' s' => wpSs C r K ρ' s', K.rt, K.bk, K.ct⟩ ⟨fun ρ' s' => wpSs C' r K' ρ' s', K'.rt, K'.bk, K'.ct⟩ from ⟨fun ρ' s' h' => wpSs_mono hC r hK h', hK.rt, hK.bk, hK.ct⟩) h
end
theorem retD_le {Q Q' : Post} (hQ : ∀ d s, Q d s → Q' d s) : DsLe (retD Q) (retD Q') :=
  ⟨fun _ _ ⟨s0, l, q⟩ => ⟨s0, l, hQ _ _ q⟩, fun _ _ ⟨s0, l, q⟩ => ⟨s0, l, hQ _ _ q⟩, fun _ _ h => h, fun _ _ h => h⟩
theorem wpF_mono (P : Prog) : ∀ k : Nat, CsLe (wpF P k) (wpF P k)
  | 0 => fun _ _ _ _ _ _ h => h.elim
  | k + 1 => fun f xs s Q Q' hQ h => by
    simp only [wpF] at h ⊢
    split at h
    · exact ⟨h.1, wpSs_mono (wpF_mono P k) _ (retD_le hQ) h.2⟩
    · exact h
theorem wpF_le (P : Prog) : ∀ k : Nat, CsLe (wpF P k) (wpF P (k + 1))
  | 0 => fun _ _ _ _ _ _ h => h.elim
  | k + 1 => fun f xs s Q Q' hQ h => by
    rw [wpF] at h ⊢
    split at h
    · exact ⟨h.1, wpSs_mono (wpF_le P k) _ (retD_le hQ) h.2⟩
    · exact h
end PL
end

section
set_option Elab.async false
set_option linter.all false
set_option maxRecDepth 100000
namespace PL
open PySem PySem.Spec PyProof.Rows L2

/-! ## tuples that are known to be plain objects -/
def tupO (us : List Value) : Obj := { cls := .type "tuple", data := .seq us.toArray }
def HX (us : List Value) (vs : List V) : HO := .frz (tupO us) (.tup vs)
def SqX (K : PySem.W.Frag) (H : Hp) (a : Addr) (xs : List V) : Prop :=
  (∃ ob, H a = some (.frz ob (.tup xs)) ∧ ob.dict = none) ∨
    ∃ (o : Obj) (its : Array Value) (n : Nat), K.lookup a = some o ∧ o.cls = .type "tuple" ∧ o.dict = none ∧ o.data = .seq its n ∧ its.size ≤ sizeLine ∧ Vals xs its.toList
theorem SqX.t {K : PySem.W.Frag} {H : Hp} {a : Addr} {xs : List V} (h : SqX K H a xs) : SqT K H a xs := by
  rcases h with ⟨ob, h, _⟩ | ⟨o, its, n, h1, h2, _, h3, h4, h5⟩
  · exact .inl (.inr ⟨ob, h⟩)
  · exact .inr ⟨o, its, n, h1, h2, h3, h4, h5⟩
theorem SqX.new {K : PySem.W.Frag} {H : Hp} {p : Addr} {us : List Value} {vs : List V} : SqX K (upd H p (HX us vs)) p vs := .inl ⟨_, upd_same, rfl⟩
/-- the object of a tuple has no dict -/
theorem SqX.obj {X : Cx} {pins : List (Addr × Obj)} {σ : L2.St} {H : Hp} {s : Shared} {a : Addr} {xs : List V} (I : Inv X pins σ H s) (h : SqX X.K H a xs) : ∃ o, s.heap.get? a = some o ∧ o.cls = .type "tuple" ∧ o.dict = none := by
  rcases h with ⟨ob, h, hd⟩ | ⟨o, its, n, h1, h2, hd, h3, h4, h5⟩
  · obtain ⟨e, _, _, _, o, e2, c, _⟩ := I.hok a _ h
    rw [e] at e2; cases e2
    exact ⟨ob, e, c, hd⟩
  · exact ⟨o, I.kIn a o h1, h2, hd⟩
section
variable {X : Cx}
theorem okX {H : Hp} {h : Heap} {xs : List V} {us : List Value} (hz : xs.length ≤ sizeLine) (r : Vals xs us) : ObjOk X.prog X.w H (h.push { cls := .type "tuple", data := .seq us.toArray }) h.objs.size (HX us xs) :=
  ⟨Heap.get?_push_size _ rfl, hz, us, r, IsTup.new _ _⟩
def tTupX (t : TA) : TE := fun σ H Q => t σ H fun xs H1 => xs.length ≤ sizeLine ∧ ∀ p us, H1 p = none → Q (.ref p) (upd H1 p (HX us xs))
theorem pe_tupX {es : List Expr} {t : TA} {pos : Pos} {x1} (h : PA X es t) : PE X (.Tuple es x1 pos) (tTupX t) := by
  refine ⟨fun pins s σ H Q I hq => ?_⟩
  refine wpAny_Tuple_spliced (thn (h.run pos pins s σ H _ I hq) fun us s1 ⟨xs, H1, I1, r, z, q⟩ => ⟨by rw [← r.length]; exact z, ?_⟩)
  have hf : H1 s1.heap.objs.size = none := I1.hok.fresh (Nat.le_refl _)
  exact ⟨.ref s1.heap.objs.size, upd H1 s1.heap.objs.size (HX us xs), I1.laid (t' := s1.toks) (fun b u e => Heap.get?_push_of_some _ e) (Nat.le_refl _) (okX z r), rfl, q _ us hf⟩
theorem call_tupleX : CallR X (.type "tuple") (fun xs H Q => ∃ p ys, xs = [.ref p] ∧ ((SqL X.K H p ys ∧ ∀ l us, H l = none → Q (.ref l) (upd H l (HX us ys))) ∨ (SqT X.K H p ys ∧ Q (.ref p) H))) := by
  intro pins s σ H xs us Q I r h
  obtain ⟨p, ys, rfl, h⟩ := h
  obtain ⟨u, rfl, rx⟩ := vals1 r
  cases rx
  rcases h with ⟨hq, q⟩ | ⟨hq, q⟩
  · obtain ⟨its, r', pl, hz⟩ := I.list hq
    have hlen := r'.length
    refine call_tuple_list pl.isList (fun h' kp => ?_) (by simp only [List.size_toArray] <;> omega)
    have I1 : Inv X pins σ H { s with heap := h' } := I.kept (t' := s.toks) kp
    have I2 : Inv X pins σ (upd H h'.objs.size (HX its ys)) { s with heap := h'.push { cls := .type "tuple", data := .seq its.toArray } } :=
      I1.laid (t' := s.toks) (fun b o e => Heap.get?_push_of_some _ e) (Nat.le_refl _) (okX hz r')
    exact ⟨.ref h'.objs.size, _, I2, rfl, q _ its (I1.hok.fresh (Nat.le_refl _))⟩
  · obtain ⟨its, r', pl, hz⟩ := I.tuple hq
    exact call_tuple_same pl ⟨.ref p, H, I, rfl, q⟩
def rCatX (K : PySem.W.Frag) : R2 := fun x y H Q => ∃ a b xs ys, x = .ref a ∧ y = .ref b ∧ SqT K H a xs ∧ SqT K H b ys ∧ xs.length + ys.length ≤ sizeLine ∧
  (xs = [] → Q (.ref b) H) ∧ (xs ≠ [] → ys = [] → Q (.ref a) H) ∧ (xs ≠ [] → ys ≠ [] → ∀ p us, H p = none → Q (.ref p) (upd H p (HX us (xs ++ ys))))
theorem op_catX : OpR X (binaryOp .Add) (rCatX X.K) := by
  intro pins s σ H x y v u Q I rx ry h
  obtain ⟨a, b, xs, ys, rfl, rfl, ha, hb, hz, q0, q1, q2⟩ := h
  cases rx
  cases ry
  obtain ⟨its, r1, p1, _⟩ := I.tuple ha
  obtain ⟨its2, r2, p2, _⟩ := I.tuple hb
  by_cases hx : xs = []
  · subst hx
    cases r1
    exact cat_tup0 p1 p2 ⟨.ref b, H, I, rfl, q0 rfl⟩
  · refine HT.cat_tup p1 p2 (fun z => hx (r1.nil_iff.mp z)) (fun z => ⟨.ref a, H, I, rfl, q1 hx (r2.nil_iff.mp z)⟩) (fun z => ?_) (by rw [← r1.length, ← r2.length]; exact hz)
    refine ⟨.ref s.heap.objs.size, _, I.laid (t' := s.toks) (o := HX (its ++ its2) (xs ++ ys)) (fun b ob q => Heap.get?_push_of_some _ q) (Nat.le_refl _) ?_, rfl, q2 hx (fun w => z (r2.nil_iff.mpr w)) _ _ (I.hok.fresh (Nat.le_refl _))⟩
    have := okX (X := X) (H := upd H s.heap.objs.size (HX (its ++ its2) (xs ++ ys))) (h := s.heap) (by rw [List.length_append]; exact hz) (r1.append r2)
    simpa using this
def rSlX (K : PySem.W.Frag) : V → Option Int → Option Int → Hp → VK → Prop := fun x lo hi H Q => ∃ a xs, x = .ref a ∧ SqT K H a xs ∧
  (HT.sIx xs.length 0 lo = 0 ∧ HT.sIx xs.length xs.length hi = xs.length → Q (.ref a) H) ∧ (¬ (HT.sIx xs.length 0 lo = 0 ∧ HT.sIx xs.length xs.length hi = xs.length) → ∀ p us, H p = none → Q (.ref p) (upd H p (HX us (cutV xs lo hi))))
theorem sl_tupX : SlR X (rSlX X.K) := by
  intro pins s σ H x v vl vu lo hi sl Q I rx hs pl pu h
  obtain ⟨a, xs, rfl, hx, q1, q2⟩ := h
  cases rx
  obtain ⟨its, r, ht, hz⟩ := I.tuple hx
  have hlen : its.toArray.size = xs.length := by rw [List.size_toArray]; exact r.length.symm
  refine ⟨"tuple", _, PyProof.Rows.slot_tuple_getitem.lookup, ht.typeIs, ?_⟩
  by_cases hw : HT.sIx xs.length 0 lo = 0 ∧ HT.sIx xs.length xs.length hi = xs.length
  · exact getItem_tuple_whole ht hs pl pu (by rw [hlen]; exact hw) ⟨.ref a, H, I, rfl, q1 hw⟩
  · refine HT.getItem_tuple_cut ht hs pl pu (by rw [hlen]; exact hw) ?_ (by rw [hlen]; exact hz)
    rw [hlen]
    have rr := (r.drop (HT.sIx xs.length 0 lo)).take (HT.sIx xs.length xs.length hi - HT.sIx xs.length 0 lo)
    refine ⟨.ref s.heap.objs.size, _, I.laid (t' := s.toks) (o := HX _ (cutV xs lo hi)) (fun b ob q => Heap.get?_push_of_some _ q) (Nat.le_refl _) (okX (Nat.le_trans (cutV_length xs lo hi) hz) rr), rfl, q2 hw _ _ (I.hok.fresh (Nat.le_refl _))⟩
def rRepX (K : PySem.W.Frag) : R2 := fun x y H Q => ∃ l k xs, x = .ref l ∧ y = .int k ∧ SqT K H l xs ∧ xs ≠ [] ∧ 2 ≤ k ∧ k ≤ 1000 ∧ xs.length ≤ 1000 ∧ ∀ p us, H p = none → Q (.ref p) (upd H p (HX us (List.replicate k.toNat xs).flatten))
theorem op_repX : OpR X (binaryOp .Mult) (rRepX X.K) := by
  intro pins s σ H x y v u Q I rx ry h
  obtain ⟨l, k, xs, rfl, rfl, hT, hne, h1, h2, hz, q⟩ := h
  cases rx
  obtain ⟨t, rfl⟩ := ry
  obtain ⟨its, r, ⟨⟨cls, dd, data, sl⟩, ho, hc, n, hd⟩, hs⟩ := I.tuple hT
  simp only at hc hd
  subst hc hd
  have hle : its.length = xs.length := r.length.symm
  have hn : its ≠ [] := fun e => hne (by
    rw [e] at hle
    exact List.eq_nil_of_length_eq_zero hle.symm)
  have hi : its.toArray.isEmpty = false := by
    cases its with
    | nil => exact absurd rfl hn
    | cons a b => rfl
  have hsz0 : its.toArray.size = xs.length := by rw [List.size_toArray, hle]
  have hm : ((its.toArray.size : Nat) : Int) * k ≤ 1000000 := by
    rw [hsz0]
    have a1 : ((xs.length : Nat) : Int) * k ≤ 1000 * k := Int.mul_le_mul_of_nonneg_right (by omega) (by omega)
    omega
  have flen : (List.replicate k.toNat its).flatten.length ≤ sizeLine := by
    rw [PyProof.Rows.lm_len_rep_flat, hle, sizeLine_eq]
    have a1 : k.toNat * xs.length ≤ 1000 * 1000 := Nat.mul_le_mul (by omega) hz
    omega
  have c0 : (decide (k < -(2 ^ 63)) || decide (k ≥ 2 ^ 63)) = false := by
    rw [decide_eq_false (by omega), decide_eq_false (by omega)] <;> rfl
  have c1 : (its.toArray.isEmpty || k == 1) = false := by
    rw [hi, Bool.false_or]
    exact beq_eq_false_iff_ne.mpr (by omega)
  have c2 : (decide (k ≤ 0) || its.toArray.isEmpty) = false := by
    rw [hi, Bool.or_false]
    exact decide_eq_false (by omega)
  have c4 : Builtin.Tuple.tupleTooMany (((its.toArray.size : Nat) : Int) * k) = false := by
    unfold Builtin.Tuple.tupleTooMany
    rw [sizeLine_eq]
    exact decide_eq_false (by omega)
  refine wpAny_binaryOp_repeat_ref (T := "tuple") (U := "int") (by decide) ⟨_, ho, rfl⟩ (fun s' => typeIs_int s' k t) noFill_tuple_mul F.fills_int_mul F.slot_int_rmul repeat_tuple F.slot_int_index.lookup
    (call_meets F.slot_int_rmul (typeIs_int s k t) F.entry_int_rmul (F.args_int_rmul_2 _ _) (int_rmul_tuple k t l its.toArray n dd sl)
      ⟨ho, rfl, ⟨_, ho, rfl⟩, call_meets F.slot_tuple_mul ⟨_, ho, rfl⟩ F.entry_tuple_mul (F.args_tuple_mul_2 _ _) (tuple_mulW l its.toArray n dd sl k t c0 c1 c2 (by omega) c4 (by rw [size_rep, List.size_toArray]; exact flen)) ⟨ho, ?_⟩⟩)
  rw [size_rep]
  refine ⟨.ref s.heap.objs.size, _, I.laid (t' := s.toks) (o := HX _ (List.replicate k.toNat xs).flatten) (fun b ob q => Heap.get?_push_of_some _ q) (Nat.le_refl _) (okX ?_ (r.rep k.toNat)), rfl, q _ _ (I.hok.fresh (Nat.le_refl _))⟩
  rw [PyProof.Rows.lm_len_rep_flat, sizeLine_eq]; have a1 : k.toNat * xs.length ≤ 1000 * 1000 := Nat.mul_le_mul (by omega) hz; omega
def tTupRgX (te : L2.St → Hp → (Int → Int → Hp → Prop) → Prop) : TE := fun σ H Q => te σ H fun a b H1 => RgOk a b ∧ ∀ q us, H1 q = none → Q (.ref q) (upd H1 q (HX us (rgV a b)))
theorem pe_tupRgX {e : Expr} {te : L2.St → Hp → (Int → Int → Hp → Prop) → Prop} {p pos : Pos} (hc : X.calm = true) (hg : Gl X "tuple") (hm : X.mg "tuple" = none) (he : PRg X e te) (na : starEach [e] X.env = (false, eval e X.env) :: starEach [] X.env := by rfl) : PE X (.Call (.Name "tuple" p) [e] [] pos) (tTupRgX te) := by
  refine ⟨fun pins s σ H Q I h => ?_⟩
  refine Call_ (ld_blt I hg hm boot_tuple (PyProof.Rows.callWith_type1 (args_cons (thn (he pins s σ H _ I h) fun x s1 ⟨r, a, b, t, u, v, H1, ex, hr, I1, ok, q⟩ => args_nil ?_) na) na))
  subst ex
  obtain ⟨b1, b2, b3, b4, b5⟩ := ok
  refine call_tuple_range (n := (b - a).toNat) (I1.ok.hd hc) hr (small_one b1 b2 b3 b4) (rangeSize_nat a b) b5 fun h' tk acc hk hi => ?_
  have I2 : Inv X pins σ H1 { s1 with heap := h', toks := tk } := I1.kept hk
  have key : ObjOk X.prog X.w (upd H1 h'.objs.size (HX acc.toList (rgV a b))) (h'.push { cls := .type "tuple", data := .seq acc }) h'.objs.size (HX acc.toList (rgV a b)) := by
    have := okX (X := X) (H := upd H1 h'.objs.size (HX acc.toList (rgV a b))) (h := h') (xs := rgV a b) (us := acc.toList) (by rw [rgV_length, sizeLine_eq]; omega) (vals_rg hi)
    rwa [Array.toArray_toList] at this
  exact ⟨.ref h'.objs.size, upd H1 h'.objs.size (HX acc.toList (rgV a b)), I2.laid (t' := tk) (fun c o e => Heap.get?_push_of_some _ e) (Nat.le_refl _) key, rfl, q _ _ (I2.hok.fresh (Nat.le_refl _))⟩
end
end PL
end

section
set_option Elab.async false
set_option linter.all false
set_option maxRecDepth 100000
namespace PL
open PySem PySem.Spec PyProof.Rows L2

/-! ## how the pure things lie in the abstract heap -/
/-- the module's written part; where the script stands (its place in a store is 0; the place n + 1 is the address n) -/
structure Kc where
  K : PySem.W.Frag
  a : Addr
def Kc.adr (K : Kc) : Nat → Addr
  | 0 => K.a
  | n + 1 => n
mutual
def RepD (K : Kc) (H : Hp) : D → V → Prop
  | .non, v => v = .non
  | .bl b, v => v = .bl b
  | .int i, v => v = .int i
  | .str x, v => v = .str x
  | .tup ds, v => ∃ a vs, v = .ref a ∧ SqX K.K H a vs ∧ RepDs K H ds vs
  | .loc a, v => v = .ref (K.adr a)
def RepDs (K : Kc) (H : Hp) : List D → List V → Prop
  | [], vs => vs = []
  | d :: ds, vs => ∃ v r, vs = v :: r ∧ RepD K H d v ∧ RepDs K H ds r
end
/-- pairs of a dict -/
def RepKV (K : Kc) (H : Hp) : List (D × D) → List (Key × V) → Prop
  | [], kvs => kvs = []
  | (k, v) :: r, kvs => ∃ k' v' r', kvs = (k', v') :: r' ∧ RepD K H k (kV k') ∧ RepD K H v v' ∧ RepKV K H r r'
/-- the script: locked, or of the written part -/
def RoL (K : Kc) (H : Hp) (xs : List V) : Prop := (∃ ob, H K.a = some (.frz ob (.lst xs))) ∨
  ∃ (o : Obj) (its : Array Value) (n : Nat), K.K.lookup K.a = some o ∧ o.cls = .type "list" ∧ o.dict = none ∧ o.data = .seq its n ∧ its.size ≤ sizeLine ∧ Vals xs its.toList
theorem RoL.seq {K : Kc} {H : Hp} {xs : List V} (h : RoL K H xs) : SqL K.K H K.a xs := by
  rcases h with h | h
  · exact .inl (.inr h)
  · exact .inr h
theorem RoL.of {K : Kc} {H : Hp} {xs : List V} (h : SqL K.K H K.a xs) (o : Only H) : RoL K H xs := by
  rcases h with (h | h) | h
  · rcases o K.a with z | ⟨ob, ys, z⟩
    · rw [h] at z; cases z
    · rw [h] at z; cases z
  · exact .inl h
  · exact .inr h
def RepO (K : Kc) (H : Hp) (l : Nat) : O → Prop
  | .lst xs => ∃ n vs, l = n + 1 ∧ H n = some (.lst vs) ∧ RepDs K H xs vs
  | .rol xs => ∃ vs, l = 0 ∧ RoL K H vs ∧ RepDs K H xs vs
  | .dic kvs => ∃ n ks, l = n + 1 ∧ H n = some (.dK ks) ∧ RepKV K H kvs ks
  | .set _ => False
  | .ins _ _ => False
def RepS (K : Kc) (H : Hp) (s : PL.S) : Prop := ∀ a o, s a = some o → RepO K H a o
def RepE (K : Kc) (H : Hp) (ρ : Vs) (σ : L2.St) : Prop := ρ.length = σ.length ∧ ∀ (i : Nat) (d : D), ρ[i]? = some (some d) → ∃ v, σ[i]? = some (some v) ∧ RepD K H d v
/-- what is never lost -/
def Keep (K : Kc) (H H' : Hp) : Prop := ∀ a vs, SqX K.K H a vs → SqX K.K H' a vs
theorem Keep.refl {K : Kc} {H : Hp} : Keep K H H := fun _ _ h => h
theorem Keep.trans {K : Kc} {H H1 H2 : Hp} (h : Keep K H H1) (h' : Keep K H1 H2) : Keep K H H2 := fun a vs q => h' a vs (h a vs q)
mutual
theorem RepD.keep {K : Kc} {H H' : Hp} (k : Keep K H H') : ∀ (d : D) (v : V), RepD K H d v → RepD K H' d v
  | .non, _, h => h
  | .bl _, _, h => h
  | .int _, _, h => h
  | .str _, _, h => h
  | .loc _, _, h => h
  | .tup ds, v, h => by
    simp only [RepD] at h ⊢
    obtain ⟨a, vs, e, q, r⟩ := h
    exact ⟨a, vs, e, k _ _ q, RepDs.keep k ds vs r⟩
theorem RepDs.keep {K : Kc} {H H' : Hp} (k : Keep K H H') : ∀ (ds : List D) (vs : List V), RepDs K H ds vs → RepDs K H' ds vs
  | [], vs, h => h
  | d :: ds, vs, h => by
    simp only [RepDs] at h ⊢
    obtain ⟨v, r, e, q, t⟩ := h
    exact ⟨v, r, e, RepD.keep k d v q, RepDs.keep k ds r t⟩
end
theorem RepE.keep {K : Kc} {H H' : Hp} {ρ : Vs} {σ : L2.St} (k : Keep K H H') (h : RepE K H ρ σ) : RepE K H' ρ σ := ⟨h.1, fun i d e =>
  let ⟨v, e', r⟩ := h.2 i d e
  ⟨v, e', RepD.keep k d v r⟩⟩
theorem RepKV.keep {K : Kc} {H H' : Hp} (k : Keep K H H') : ∀ (kvs : List (D × D)) (ks : List (Key × V)), RepKV K H kvs ks → RepKV K H' kvs ks
  | [], _, h => h
  | (x, y) :: r, ks, h => by
    simp only [RepKV] at h ⊢
    obtain ⟨k', v', r', e, q1, q2, t⟩ := h
    exact ⟨k', v', r', e, RepD.keep k _ _ q1, RepD.keep k _ _ q2, RepKV.keep k r r' t⟩
theorem RepDs.length {K : Kc} {H : Hp} : ∀ {ds : List D} {vs : List V}, RepDs K H ds vs → ds.length = vs.length
  | [], vs, h => by cases h; rfl
  | d :: ds, vs, h => by
    simp only [RepDs] at h
    obtain ⟨v, r, rfl, _, t⟩ := h
    simp [RepDs.length t]
theorem RepDs.append {K : Kc} {H : Hp} : ∀ {ds es : List D} {vs ws : List V}, RepDs K H ds vs → RepDs K H es ws → RepDs K H (ds ++ es) (vs ++ ws)
  | [], es, vs, ws, h, h' => by cases h; exact h'
  | d :: ds, es, vs, ws, h, h' => by
    simp only [RepDs] at h
    obtain ⟨v, r, rfl, q, t⟩ := h
    show RepDs K H (d :: (ds ++ es)) _
    simp only [RepDs]
    exact ⟨v, r ++ ws, rfl, q, RepDs.append t h'⟩
theorem RepDs.take {K : Kc} {H : Hp} : ∀ (n : Nat) {ds : List D} {vs : List V}, RepDs K H ds vs → RepDs K H (ds.take n) (vs.take n)
  | 0, ds, vs, h => by simp [RepDs]
  | n + 1, [], vs, h => by cases h; simp [RepDs]
  | n + 1, d :: ds, vs, h => by
    simp only [RepDs] at h
    obtain ⟨v, r, rfl, q, t⟩ := h
    simp only [List.take_succ_cons, RepDs]
    exact ⟨v, r.take n, rfl, q, RepDs.take n t⟩
theorem RepDs.drop {K : Kc} {H : Hp} : ∀ (n : Nat) {ds : List D} {vs : List V}, RepDs K H ds vs → RepDs K H (ds.drop n) (vs.drop n)
  | 0, ds, vs, h => h
  | n + 1, [], vs, h => by cases h; simp [RepDs]
  | n + 1, d :: ds, vs, h => by
    simp only [RepDs] at h
    obtain ⟨v, r, rfl, q, t⟩ := h
    exact RepDs.drop n t
theorem RepDs.get {K : Kc} {H : Hp} : ∀ {i : Nat} {ds : List D} {vs : List V} {d : D}, RepDs K H ds vs → ds[i]? = some d → ∃ v, vs[i]? = some v ∧ RepD K H d v
  | i, [], vs, d, h, e => by simp at e
  | 0, d :: ds, vs, d', h, e => by
    simp only [RepDs] at h
    obtain ⟨v, r, rfl, q, t⟩ := h
    simp at e; subst e
    exact ⟨v, rfl, q⟩
  | i + 1, d :: ds, vs, d', h, e => by
    simp only [RepDs] at h
    obtain ⟨v, r, rfl, q, t⟩ := h
    exact RepDs.get (i := i) t (by simpa using e)
theorem RepDs.set {K : Kc} {H : Hp} {d : D} {v : V} (q : RepD K H d v) : ∀ (i : Nat) {ds : List D} {vs : List V}, RepDs K H ds vs → RepDs K H (ds.set i d) (vs.set i v)
  | i, [], vs, h => by cases h; simp [RepDs]
  | 0, e :: ds, vs, h => by
    simp only [RepDs] at h
    obtain ⟨v', r, rfl, _, t⟩ := h
    simp only [List.set_cons_zero, RepDs]
    exact ⟨v, r, rfl, q, t⟩
  | i + 1, e :: ds, vs, h => by
    simp only [RepDs] at h
    obtain ⟨v', r, rfl, q', t⟩ := h
    simp only [List.set_cons_succ, RepDs]
    exact ⟨v', r.set i v, rfl, q', RepDs.set q i t⟩
theorem RepDs.eraseIdx {K : Kc} {H : Hp} : ∀ (i : Nat) {ds : List D} {vs : List V}, RepDs K H ds vs → RepDs K H (ds.eraseIdx i) (vs.eraseIdx i)
  | i, [], vs, h => by cases h; simp [RepDs]
  | 0, e :: ds, vs, h => by
    simp only [RepDs] at h
    obtain ⟨v', r, rfl, _, t⟩ := h
    exact t
  | i + 1, e :: ds, vs, h => by
    simp only [RepDs] at h
    obtain ⟨v', r, rfl, q', t⟩ := h
    simp only [List.eraseIdx_cons_succ, RepDs]
    exact ⟨v', r.eraseIdx i, rfl, q', RepDs.eraseIdx i t⟩
theorem RepDs.rep {K : Kc} {H : Hp} {ds : List D} {vs : List V} (h : RepDs K H ds vs) : ∀ k : Nat, RepDs K H (List.replicate k ds).flatten (List.replicate k vs).flatten
  | 0 => by simp [RepDs]
  | k + 1 => by
    simp only [List.replicate_succ, List.flatten_cons]
    exact h.append (RepDs.rep h k)
theorem RepDs.one {K : Kc} {H : Hp} {d : D} {v : V} (q : RepD K H d v) : RepDs K H [d] [v] := by
  simp only [RepDs]; exact ⟨v, [], rfl, q, rfl⟩
theorem RepDs.nil {K : Kc} {H : Hp} : RepDs K H [] [] := by simp [RepDs]
theorem RepDs.cons {K : Kc} {H : Hp} {d : D} {v : V} {ds : List D} {vs : List V} (q : RepD K H d v) (t : RepDs K H ds vs) : RepDs K H (d :: ds) (v :: vs) := by
  simp only [RepDs]; exact ⟨v, vs, rfl, q, t⟩
theorem RepDs.ints {K : Kc} {H : Hp} : ∀ {ns : List Int} {vs : List V}, RepDs K H (ns.map D.int) vs → vs = ns.map V.int
  | [], vs, h => h
  | n :: ns, vs, h => by
    simp only [List.map_cons, RepDs] at h
    obtain ⟨v, r, rfl, q, t⟩ := h
    simp only [RepD] at q
    rw [q, RepDs.ints t]; rfl
theorem RepDs.bls {K : Kc} {H : Hp} : ∀ {ns : List Bool} {vs : List V}, RepDs K H (ns.map D.bl) vs → vs = ns.map V.bl
  | [], vs, h => h
  | n :: ns, vs, h => by
    simp only [List.map_cons, RepDs] at h
    obtain ⟨v, r, rfl, q, t⟩ := h
    simp only [RepD] at q
    rw [q, RepDs.bls t]; rfl

/-! ### new objects, writes -/
section
variable {K : Kc} {H : Hp} {s : PL.S} {p : Addr} {o : HO}
theorem SqX.up (hp : H p = none) {a : Addr} {vs : List V} (h : SqX K.K H a vs) : SqX K.K (upd H p o) a vs := by
  rcases h with ⟨ob, h, hd⟩ | h
  · exact .inl ⟨ob, by rw [upd_ne (ne_of_none h hp)]; exact h, hd⟩
  · exact .inr h
theorem SqL.up (hp : H p = none) {a : Addr} {vs : List V} (h : SqL K.K H a vs) : SqL K.K (upd H p o) a vs := by
  rcases h with (h | ⟨ob, h⟩) | h
  · exact .inl (.inl (by rw [upd_ne (ne_of_none h hp)]; exact h))
  · exact .inl (.inr ⟨ob, by rw [upd_ne (ne_of_none h hp)]; exact h⟩)
  · exact .inr h
theorem Keep.up (hp : H p = none) : Keep K H (upd H p o) := fun _ _ h => SqX.up hp h
/-- a written list, dict, instance .. is no tuple -/
def NoTup : HO → Prop
  | .tup _ => False
  | .frz _ _ => False
  | _ => True
theorem Keep.write {o' : HO} (h : H p = some o) (n : NoTup o) : Keep K H (upd H p o') := fun a vs q => by
  rcases q with ⟨ob, q, hd⟩ | q
  · by_cases e : a = p
    · subst e; rw [h] at q; cases q; exact n.elim
    · exact .inl ⟨ob, by rw [upd_ne e]; exact q, hd⟩
  · exact .inr q
theorem RoL.up (hp : H p = none) {vs : List V} (h : RoL K H vs) : RoL K (upd H p o) vs := by
  rcases h with ⟨ob, h⟩ | h
  · exact .inl ⟨ob, by rw [upd_ne (ne_of_none h hp)]; exact h⟩
  · exact .inr h
theorem RepO.up (hp : H p = none) {l : Nat} {u : O} (h : RepO K H l u) : RepO K (upd H p o) l u := by
  cases u with
  | lst xs =>
    obtain ⟨n, vs, e0, e, r⟩ := h
    exact ⟨n, vs, e0, by rw [upd_ne (ne_of_none e hp)]; exact e, RepDs.keep (Keep.up hp) _ _ r⟩
  | rol xs =>
    obtain ⟨vs, e0, e, r⟩ := h
    exact ⟨vs, e0, RoL.up hp e, RepDs.keep (Keep.up hp) _ _ r⟩
  | dic kvs =>
    obtain ⟨n, vs, e0, e, r⟩ := h
    exact ⟨n, vs, e0, by rw [upd_ne (ne_of_none e hp)]; exact e, RepKV.keep (Keep.up hp) _ _ r⟩
  | set _ => exact h.elim
  | ins _ _ => exact h.elim
theorem RepS.up (hp : H p = none) (h : RepS K H s) : RepS K (upd H p o) s := fun a u e => (h a u e).up hp
/-- nothing is known of a free address -/
theorem RepS.no (hp : H p = none) (h : RepS K H s) : s (p + 1) = none := by
  cases e : s (p + 1) with
  | none => rfl
  | some u =>
    have q := h _ _ e
    cases u with
    | lst xs => obtain ⟨n, vs, e0, e, _⟩ := q; cases e0; rw [hp] at e; cases e
    | rol xs => obtain ⟨vs, e0, _⟩ := q; cases e0
    | dic xs => obtain ⟨n, vs, e0, e, _⟩ := q; cases e0; rw [hp] at e; cases e
    | set _ => exact q.elim
    | ins _ _ => exact q.elim
/-- a new object, told -/
theorem RepS.new {u : O} (hp : H p = none) (h : RepS K H s) (n : RepO K (upd H p o) (p + 1) u) : RepS K (upd H p o) (s.up (p + 1) u) := fun a w e => by
  unfold S.up at e
  split at e
  · next q => subst q; cases e; exact n
  · exact (h a w e).up hp
theorem RepO.write {o' : HO} (h : H p = some o) (n : NoTup o) {l : Nat} (ne : l ≠ p + 1) {u : O} (hu : RepO K H l u) : RepO K (upd H p o') l u := by
  have kp : Keep K H (upd H p o') := Keep.write h n
  cases u with
  | lst xs =>
    obtain ⟨m, vs, e0, e, r⟩ := hu
    exact ⟨m, vs, e0, by rw [upd_ne (fun z => ne (by rw [e0, z]))]; exact e, RepDs.keep kp _ _ r⟩
  | rol xs =>
    obtain ⟨vs, e0, e, r⟩ := hu
    refine ⟨vs, e0, ?_, RepDs.keep kp _ _ r⟩
    rcases e with ⟨ob, e⟩ | e
    · by_cases z : K.a = p
      · rw [z, h] at e; cases e; exact n.elim
      · exact .inl ⟨ob, by rw [upd_ne z]; exact e⟩
    · exact .inr e
  | dic kvs =>
    obtain ⟨m, vs, e0, e, r⟩ := hu
    exact ⟨m, vs, e0, by rw [upd_ne (fun z => ne (by rw [e0, z]))]; exact e, RepKV.keep kp _ _ r⟩
  | set _ => exact hu.elim
  | ins _ _ => exact hu.elim
theorem RepS.write {o' : HO} {u : O} (hp : H p = some o) (n : NoTup o) (h : RepS K H s) (nw : RepO K (upd H p o') (p + 1) u) : RepS K (upd H p o') (s.up (p + 1) u) := fun a w e => by
  unfold S.up at e
  split at e
  · next q => subst q; cases e; exact nw
  · next q => exact (h a w e).write hp n q
theorem RepS.le {t : PL.S} (h : RepS K H t) (l : s.le t) : RepS K H s := fun a o e => h a o (l a o e)
end
end PL
end

section
set_option Elab.async false
set_option linter.all false
set_option maxRecDepth 100000
namespace PL
open PySem PySem.Spec PyProof.Rows L2

def PQ (K : Kc) (H : Hp) (Q : VK) : Post := fun d s' => ∀ v H', Keep K H H' → RepD K H' d v → RepS K H' s' → Q v H'
def opOf : Op → Operator
  | .add => .Add | .sub => .Sub | .mul => .Mult | .fdiv => .FloorDiv | .mod => .Mod | .pow => .Pow | .shl => .LShift | .shr => .RShift | .band => .BitAnd
section
variable {K : Kc} {H : Hp} {s : PL.S} {Q : VK}
theorem PQ.here {d : D} {v : V} (q : PQ K H Q d s) (r : RepD K H d v) (hs : RepS K H s) : Q v H := q v H Keep.refl r hs
theorem PQ.int {i : Int} (q : PQ K H Q (.int i) s) (hs : RepS K H s) : Q (.int i) H := q _ H Keep.refl rfl hs
theorem PQ.bl {i : Bool} (q : PQ K H Q (.bl i) s) (hs : RepS K H s) : Q (.bl i) H := q _ H Keep.refl rfl hs
theorem PQ.non (q : PQ K H Q .non s) (hs : RepS K H s) : Q .non H := q _ H Keep.refl rfl hs
theorem PQ.str {x : Str} (q : PQ K H Q (.str x) s) (hs : RepS K H s) : Q (.str x) H := q _ H Keep.refl rfl hs
/-- a new list -/
theorem PQ.newL {xs : List D} {vs : List V} {p : Addr} (q : newO (.lst xs) s (PQ K H Q)) (hs : RepS K H s) (r : RepDs K H xs vs) (hp : H p = none) : Q (.ref p) (upd H p (.lst vs)) :=
  q (p + 1) (hs.no hp) _ _ (Keep.up hp) rfl (hs.new hp ⟨p, vs, rfl, upd_same, RepDs.keep (Keep.up hp) _ _ r⟩)
/-- a new tuple -/
theorem PQ.newT {xs : List D} {vs : List V} {us : List Value} {p : Addr} (q : PQ K H Q (.tup xs) s) (hs : RepS K H s) (r : RepDs K H xs vs) (hp : H p = none) : Q (.ref p) (upd H p (HX us vs)) := by
  refine q _ _ (Keep.up hp) ?_ (hs.up hp)
  simp only [RepD]
  exact ⟨p, vs, rfl, SqX.new, RepDs.keep (Keep.up hp) _ _ r⟩
theorem RepD.tupI {xs : List D} {v : V} (r : RepD K H (.tup xs) v) : ∃ a vs, v = .ref a ∧ SqX K.K H a vs ∧ RepDs K H xs vs := by simpa only [RepD] using r
theorem RepD.tupM {xs : List D} {a : Addr} {vs : List V} (q : SqX K.K H a vs) (r : RepDs K H xs vs) : RepD K H (.tup xs) (.ref a) := by
  simp only [RepD]; exact ⟨a, vs, rfl, q, r⟩
theorem RepS.lst {l : Nat} {xs : List D} (hs : RepS K H s) (e : s l = some (.lst xs)) : ∃ n vs, l = n + 1 ∧ K.adr l = n ∧ H n = some (.lst vs) ∧ RepDs K H xs vs := by
  obtain ⟨n, vs, e0, e1, r⟩ := hs l _ e
  exact ⟨n, vs, e0, by rw [e0]; rfl, e1, r⟩
theorem RepS.seq {l : Nat} {xs : List D} (hs : RepS K H s) (e : seqAt s l = some xs) : ∃ vs, SqL K.K H (K.adr l) vs ∧ RepDs K H xs vs := by
  unfold seqAt at e
  split at e
  · next ys q =>
    cases e
    obtain ⟨n, vs, _, e1, e2, r⟩ := hs.lst q
    exact ⟨vs, by rw [e1]; exact SqL.of e2, r⟩
  · next ys q =>
    cases e
    obtain ⟨vs, e0, e1, r⟩ := hs l _ q
    exact ⟨vs, by rw [e0]; exact e1.seq, r⟩
  · cases e
/-- an operation by values -/
def rV (K : Kc) (w : D → D → PL.S → Post → Prop) : R2 := fun x y H Q => ∃ d e s, RepD K H d x ∧ RepD K H e y ∧ RepS K H s ∧ w d e s (PQ K H Q)
theorem lim_eq : sizeLine = lim := sizeLine_eq
end
section
variable {X : Cx} {K : Kc}
theorem bin_ok (hK : K.K = X.K) (hu : X.A.units + 65 < cLine) : ∀ op : Op, OpR X (binaryOp (opOf op)) (rV K (wpBin op)) := by
  intro op pins s σ H x y v u Q I rx ry ⟨d, e, t, rd, re, hs, h⟩
  unfold wpBin at h
  split at h
  · cases rd; cases re; exact op_add pins s σ H _ _ v u Q I rx ry ⟨_, _, rfl, rfl, h.int hs⟩
  · cases rd; cases re; exact op_add_str pins s σ H _ _ v u Q I rx ry ⟨_, _, rfl, rfl, by rw [lim_eq]; exact h.1, h.2.str hs⟩
  · next _ _ xs ys =>
    obtain ⟨a, vs, rfl, qa, ra⟩ := rd.tupI
    obtain ⟨b, ws, rfl, qb, rb⟩ := re.tupI
    obtain ⟨hl, h⟩ := h
    refine op_catX pins s σ H _ _ v u Q I rx ry ⟨a, b, vs, ws, rfl, rfl, by rw [← hK]; exact qa.t, by rw [← hK]; exact qb.t, by rw [lim_eq, ← ra.length, ← rb.length]; exact hl, fun z => ?_, fun _ z => ?_, fun _ _ p us hp => ?_⟩
    · subst z
      have z' : xs = [] := List.eq_nil_of_length_eq_zero ra.length
      subst z'
      exact h.here (RepD.tupM qb rb) hs
    · subst z
      have z' : ys = [] := List.eq_nil_of_length_eq_zero rb.length
      subst z'
      exact h.here (by rw [List.append_nil]; exact RepD.tupM qa ra) hs
    · exact PQ.newT h hs (ra.append rb) hp
  · next _ _ a b =>
    cases rd; cases re
    obtain ⟨xs, ys, e1, e2, hl, h⟩ := h
    obtain ⟨n, vs, _, n1, q1, r1⟩ := hs.lst e1
    obtain ⟨m, ws, _, n2, q2, r2⟩ := hs.lst e2
    rw [n1] at rx; rw [n2] at ry
    exact op_cat pins s σ H _ _ v u Q I rx ry ⟨n, m, vs, ws, rfl, rfl, q1, q2, by rw [lim_eq, ← r1.length, ← r2.length]; exact hl, fun p hp => PQ.newL h hs (r1.append r2) hp⟩
  · cases rd; cases re; exact op_sub pins s σ H _ _ v u Q I rx ry ⟨_, _, rfl, rfl, h.int hs⟩
  · cases rd; cases re; exact op_mul pins s σ H _ _ v u Q I rx ry ⟨_, _, rfl, rfl, h.1, h.2.int hs⟩
  · next _ _ a k =>
    cases rd; cases re
    obtain ⟨xs, e1, h1, h2, hl, h⟩ := h
    obtain ⟨n, vs, _, n1, q1, r1⟩ := hs.lst e1
    rw [n1] at rx
    exact op_rep pins s σ H _ _ v u Q I rx ry ⟨n, k, vs, rfl, rfl, q1, h1, h2, by rw [lim_eq, ← r1.length]; exact hl, fun p hp => PQ.newL h hs (r1.rep _) hp⟩
  · next _ _ xs k =>
    obtain ⟨a, vs, rfl, qa, ra⟩ := rd.tupI
    cases re
    obtain ⟨h0, h1, h2, hl, h⟩ := h
    exact op_repX pins s σ H _ _ v u Q I rx ry ⟨a, k, vs, rfl, rfl, by rw [← hK]; exact qa.t, fun z => h0 (List.eq_nil_of_length_eq_zero (by rw [ra.length, z]; rfl)), h1, h2, by rw [← ra.length]; exact hl, fun p us hp => PQ.newT h hs (ra.rep _) hp⟩
  · cases rd; cases re; exact op_fdiv pins s σ H _ _ v u Q I rx ry ⟨_, _, rfl, rfl, h.1, h.2.int hs⟩
  · cases rd; cases re; exact op_mod pins s σ H _ _ v u Q I rx ry ⟨_, _, rfl, rfl, h.1, h.2.int hs⟩
  · cases rd; cases re; exact op_pow pins s σ H _ _ v u Q I rx ry ⟨_, _, rfl, rfl, h.1, h.2.int hs⟩
  · cases rd; cases re; exact op_shl pins s σ H _ _ v u Q I rx ry ⟨_, _, rfl, rfl, h.1, h.2.int hs⟩
  · cases rd; cases re; exact op_shr pins s σ H _ _ v u Q I rx ry ⟨_, _, rfl, rfl, h.1, h.2.int hs⟩
  · cases rd; cases re
    obtain ⟨h0, h1, h⟩ := h
    subst h1
    refine op_and pins s σ H _ _ v u Q I rx ry ⟨_, _, rfl, rfl, ?_⟩
    show Q (.int (Builtin.bitAnd _ 1)) H
    rw [PyProof.Rows.bitAnd_m1]
    exact h.int hs
  · exact h.elim
end

/-! ## dicts whose keys are whole numbers and texts -/
def dK : Key → D
  | .inl i => .int i
  | .inr x => .str x
section
variable {K : Kc} {H : Hp} {s : PL.S}
theorem keyD_inv {k : D} {x : V} (h : keyD k = true) (r : RepD K H k x) : ∃ k', k = dK k' ∧ x = kV k' := by
  cases k <;> simp only [keyD] at h <;> try cases h
  · cases r; exact ⟨.inl _, rfl, rfl⟩
  · cases r; exact ⟨.inr _, rfl, rfl⟩
theorem RepD.key {d : D} {k : Key} (r : RepD K H d (kV k)) : d = dK k := by
  cases d with
  | tup ds => obtain ⟨_, _, q, _⟩ := RepD.tupI r; cases k <;> cases q
  | int i => cases k with
    | inl j => have q : V.int j = V.int i := r; cases q; rfl
    | inr x => have q : V.str x = V.int i := r; cases q
  | str y => cases k with
    | inl j => have q : V.int j = V.str y := r; cases q
    | inr x => have q : V.str x = V.str y := r; cases q; rfl
  | non => cases k with
    | inl j => have q : V.int j = V.non := r; cases q
    | inr x => have q : V.str x = V.non := r; cases q
  | bl b => cases k with
    | inl j => have q : V.int j = V.bl b := r; cases q
    | inr x => have q : V.str x = V.bl b := r; cases q
  | loc b => cases k with
    | inl j => have q : V.int j = V.ref (K.adr b) := r; cases q
    | inr x => have q : V.str x = V.ref (K.adr b) := r; cases q
theorem beq_dK (a b : Key) : D.beq (dK a) (dK b) = decide (a = b) := by
  cases a <;> cases b <;> simp only [dK, D.beq]
  · rename_i a b; rw [Bool.eq_iff_iff]; simp
  · simp
  · simp
  · rename_i a b; rw [Bool.eq_iff_iff]; simp
theorem RepKV.get : ∀ {kvs : List (D × D)} {ks : List (Key × V)} (k : Key), RepKV K H kvs ks → (∀ d, dget kvs (dK k) = some d → ∃ v, valV ks k = some v ∧ RepD K H d v) ∧ (dget kvs (dK k) = none → valV ks k = none)
  | [], ks, k, h => by
    cases h
    exact ⟨fun d e => (nomatch (show (none : Option D) = some d from e)), fun _ => rfl⟩
  | (x, y) :: r, ks, k, h => by
    simp only [RepKV] at h
    obtain ⟨k', v', r', rfl, q1, q2, t⟩ := h
    have e1 := q1.key
    subst e1
    obtain ⟨h1, h2⟩ := RepKV.get k t
    unfold dget at h1 h2 ⊢
    rw [List.find?_cons, beq_dK]
    by_cases e : k' = k
    · subst e
      rw [decide_eq_true rfl]
      refine ⟨fun d e => ?_, fun e => by cases e⟩
      cases e
      exact ⟨v', valV_pos rfl, q2⟩
    · rw [decide_eq_false e]
      rw [valV_neg (p := (k', v')) e]
      exact ⟨h1, h2⟩
theorem RepKV.some {kvs : List (D × D)} {ks : List (Key × V)} {k : Key} {d : D} (h : RepKV K H kvs ks) (e : dget kvs (dK k) = some d) : ∃ v, valV ks k = some v ∧ RepD K H d v := (h.get k).1 d e
theorem RepKV.isSome {kvs : List (D × D)} {ks : List (Key × V)} {k : Key} (h : RepKV K H kvs ks) : (valV ks k).isSome = (dget kvs (dK k)).isSome := by
  cases e : dget kvs (dK k) with
  | none => rw [(h.get k).2 e]; rfl
  | some d =>
    obtain ⟨v, e2, _⟩ := h.some e
    rw [e2]; rfl
theorem RepKV.any : ∀ {kvs : List (D × D)} {ks : List (Key × V)} (k : Key), RepKV K H kvs ks → (kvs.any fun kv => D.beq kv.1 (dK k)) = (ks.any fun kv => decide (kv.1 = k))
  | [], ks, k, h => by cases h; rfl
  | (x, y) :: r, ks, k, h => by
    simp only [RepKV] at h
    obtain ⟨k', v', r', rfl, q1, q2, t⟩ := h
    have e1 := q1.key
    subst e1
    rw [List.any_cons, List.any_cons, RepKV.any k t, beq_dK]
theorem RepKV.map {k : Key} {d : D} {v : V} (q : RepD K H d v) : ∀ {kvs : List (D × D)} {ks : List (Key × V)}, RepKV K H kvs ks →
    RepKV K H (kvs.map fun kv => if D.beq kv.1 (dK k) then (kv.1, d) else kv) (ks.map fun kv => if kv.1 = k then (kv.1, v) else kv)
  | [], ks, h => by cases h; simp [RepKV]
  | (x, y) :: r, ks, h => by
    simp only [RepKV] at h
    obtain ⟨k', v', r', rfl, q1, q2, t⟩ := h
    have e1 := q1.key
    subst e1
    have ih := RepKV.map (k := k) q t
    simp only [List.map_cons, beq_dK]
    by_cases e : k' = k
    · subst e
      simp only [decide_eq_true, if_true]
      simp only [RepKV]
      exact ⟨_, _, _, rfl, q1, q, ih⟩
    · simp only [decide_eq_false e, if_neg e]
      simp only [RepKV]
      exact ⟨_, _, _, rfl, q1, q2, ih⟩
theorem RepKV.snoc {k : Key} {d : D} {v : V} (q : RepD K H d v) (qk : RepD K H (dK k) (kV k)) : ∀ {kvs : List (D × D)} {ks : List (Key × V)}, RepKV K H kvs ks → RepKV K H (kvs ++ [(dK k, d)]) (ks ++ [(k, v)])
  | [], ks, h => by cases h; simp only [List.nil_append, RepKV]; exact ⟨_, _, _, rfl, qk, q, rfl⟩
  | (x, y) :: r, ks, h => by
    simp only [RepKV] at h
    obtain ⟨k', v', r', rfl, q1, q2, t⟩ := h
    simp only [List.cons_append, RepKV]
    exact ⟨_, _, _, rfl, q1, q2, RepKV.snoc q qk t⟩
theorem rep_dK (k : Key) : RepD K H (dK k) (kV k) := by cases k <;> rfl
theorem RepKV.put {kvs : List (D × D)} {ks : List (Key × V)} {k : Key} {d : D} {v : V} (h : RepKV K H kvs ks) (q : RepD K H d v) : RepKV K H (dput kvs (dK k) d) (putK ks k v) := by
  unfold dput putK
  rw [RepKV.any k h]
  split
  · exact RepKV.map q h
  · exact RepKV.snoc q (rep_dK k) h
theorem RepKV.length : ∀ {kvs : List (D × D)} {ks : List (Key × V)}, RepKV K H kvs ks → kvs.length = ks.length
  | [], ks, h => by cases h; rfl
  | (x, y) :: r, ks, h => by
    simp only [RepKV] at h
    obtain ⟨k', v', r', rfl, q1, q2, t⟩ := h
    simp [RepKV.length t]
theorem RepS.dic {l : Nat} {kvs : List (D × D)} (hs : RepS K H s) (e : s l = some (.dic kvs)) : ∃ n ks, l = n + 1 ∧ K.adr l = n ∧ H n = some (.dK ks) ∧ RepKV K H kvs ks := by
  obtain ⟨n, vs, e0, e1, r⟩ := hs l _ e
  exact ⟨n, vs, e0, by rw [e0]; rfl, e1, r⟩
end

/-! ## data -/
theorem mapM_cons_some {α β : Type} {f : α → Option β} {x : α} {xs : List α} {ys : List β} (h : (x :: xs).mapM f = some ys) : ∃ y r, f x = some y ∧ xs.mapM f = some r ∧ ys = y :: r := by
  rw [List.mapM_cons] at h
  cases e : f x with
  | none => rw [e] at h; cases h
  | some y =>
    cases e2 : xs.mapM f with
    | none => rw [e, e2] at h; cases h
    | some r => rw [e, e2] at h; cases h; exact ⟨y, r, rfl, rfl, rfl⟩
section
variable {K : Kc} {H : Hp} {s : PL.S}
theorem dpAll_of {n : Nat} (ih : ∀ d v a, dat s n d = some a → RepD K H d v → Dp K.K H v a ∧ a.plain = true ∧ a.depth ≤ n) : ∀ (ds : List D) (vs : List V) (as : List PyData), ds.mapM (dat s n) = some as → RepDs K H ds vs → DpAll K.K H vs as ∧ PyData.plainAll as = true ∧ PyData.depthAll as ≤ n
  | [], vs, as, h, r => by
    simp at h; subst h; cases r
    exact ⟨.nil, rfl, Nat.zero_le _⟩
  | d :: ds, vs, as, h, r => by
    obtain ⟨a, as', h1, h2, rfl⟩ := mapM_cons_some h
    simp only [RepDs] at r
    obtain ⟨v, vs', rfl, q, t⟩ := r
    obtain ⟨c1, c2, c3⟩ := ih d v a h1 q
    obtain ⟨d1, d2, d3⟩ := dpAll_of ih ds vs' as' h2 t
    exact ⟨.cons c1 d1, by simp only [PyData.plainAll, c2, d2, Bool.and_self], by simp only [PyData.depthAll]; omega⟩
theorem dp_of (hs : RepS K H s) : ∀ (n : Nat) (d : D) (v : V) (a : PyData), dat s n d = some a → RepD K H d v → Dp K.K H v a ∧ a.plain = true ∧ a.depth ≤ n
  | n, .non, v, a, h, r => by
    cases r; cases n <;> (simp only [dat] at h; cases h; exact ⟨.non, rfl, Nat.zero_le _⟩)
  | n, .bl b, v, a, h, r => by
    cases r; cases n <;> (simp only [dat] at h; cases h; exact ⟨.bl b, rfl, Nat.zero_le _⟩)
  | n, .int b, v, a, h, r => by
    cases r; cases n <;> (simp only [dat] at h; cases h; exact ⟨.int b, rfl, Nat.zero_le _⟩)
  | n, .str b, v, a, h, r => by
    cases r; cases n <;> (simp only [dat] at h; cases h; exact ⟨.str b, rfl, Nat.zero_le _⟩)
  | 0, .tup xs, v, a, h, r => by simp only [dat] at h; cases h
  | 0, .loc xs, v, a, h, r => by simp only [dat] at h; cases h
  | n + 1, .tup xs, v, a, h, r => by
    simp only [dat] at h
    cases e : xs.mapM (dat s n) with
    | none => rw [e] at h; cases h
    | some as =>
      rw [e] at h; cases h
      obtain ⟨p, vs, rfl, q, rr⟩ := r.tupI
      obtain ⟨d1, d2, d3⟩ := dpAll_of (dp_of hs n) xs vs as e rr
      exact ⟨.tup q.t d1, by simp only [PyData.plain, d2], by simp only [PyData.depth]; omega⟩
  | n + 1, .loc l, v, a, h, r => by
    simp only [dat] at h
    split at h
    · next xs q =>
      cases e : xs.mapM (dat s n) with
      | none => rw [e] at h; cases h
      | some as =>
        rw [e] at h; cases h
        cases r
        obtain ⟨vs, q1, rr⟩ := hs.seq q
        obtain ⟨d1, d2, d3⟩ := dpAll_of (dp_of hs n) xs vs as e rr
        exact ⟨.lst q1 d1, by simp only [PyData.plain, d2], by simp only [PyData.depth]; omega⟩
    · cases h
end
section
variable {X : Cx} {K : Kc} {H : Hp} {s : PL.S} {pins : List (Addr × Obj)} {σ : L2.St} {sh : Shared}
theorem reads_of (I : Inv X pins σ H sh) (hK : K.K = X.K) (hs : RepS K H s) {n : Nat} {d : D} {x : V} {v : Value} {a : PyData} (h : dat s n d = some a) (r : RepD K H d x) (rv : RelV x v) : (∃ as, Reads sh.heap v a as) ∧ a.plain = true ∧ a.depth ≤ n := by
  obtain ⟨h1, h2, h3⟩ := dp_of hs n d x a h r
  rw [hK] at h1
  exact ⟨Dp.reads I a x v h1 rv, h2, h3⟩
theorem readsAll_of (I : Inv X pins σ H sh) (hK : K.K = X.K) (hs : RepS K H s) {n : Nat} {ds : List D} {xs : List V} {vs : List Value} {as : List PyData} (h : ds.mapM (dat s n) = some as) (r : RepDs K H ds xs) (rv : Vals xs vs) : (∃ bs, ReadsAll sh.heap vs as bs) ∧ PyData.plainAll as = true ∧ PyData.depthAll as ≤ n := by
  obtain ⟨h1, h2, h3⟩ := dpAll_of (dp_of hs n) ds xs as h r
  rw [hK] at h1
  exact ⟨Dp.readsAll I as xs vs h1 rv, h2, h3⟩
end
def cmOf : Cm → CmpOp
  | .eq => .Eq | .ne => .NotEq | .lt => .Lt | .le => .LtE | .gt => .Gt | .ge => .GtE | .isin => .In | .notin => .NotIn
section
variable {X : Cx} {K : Kc}
theorem cm_ok (hK : K.K = X.K) (hu : X.A.units + 65 < cLine) : ∀ op : Cm, OpR X (compareOp (cmOf op)) (rV K (wpCm op)) := by
  intro op pins s σ H x y v u Q I rx ry ⟨d, e, t, rd, re, hs, h⟩
  have e60 : ∀ {l : D} {bs : List PyData}, (∃ ys, l = .tup ys ∧ ys.mapM (dat t 59) = some bs) → dat t 60 l = some (.tuple bs) := fun {l bs} ⟨ys, e1, e2⟩ => by subst e1; simp only [dat, e2]; rfl
  have e61 : ∀ {l : Nat} {ys : List D} {bs : List PyData}, seqAt t l = some ys → ys.mapM (dat t 59) = some bs → dat t 60 (.loc l) = some (.list bs) := fun {l ys bs} e1 e2 => by simp only [dat, e1, e2]; rfl
  unfold wpCm at h
  split at h
  · obtain ⟨a, b, h1, h2, h⟩ := h
    obtain ⟨⟨as, p1⟩, p2, p3⟩ := reads_of I hK hs h1 rd rx
    obtain ⟨⟨bs, q1⟩, q2, q3⟩ := reads_of I hK hs h2 re ry
    exact PySem.SeqAt.eq_plain p1 q1 p2 q2 (by omega) ⟨.bl _, H, I, rfl, h.bl hs⟩
  · obtain ⟨a, b, h1, h2, h⟩ := h
    obtain ⟨⟨as, p1⟩, p2, p3⟩ := reads_of I hK hs h1 rd rx
    obtain ⟨⟨bs, q1⟩, q2, q3⟩ := reads_of I hK hs h2 re ry
    exact PySem.SeqAt.ne_plain p1 q1 p2 q2 (by omega) ⟨.bl _, H, I, rfl, h.bl hs⟩
  · cases rd; cases re; exact op_lt pins s σ H _ _ v u Q I rx ry ⟨_, _, rfl, rfl, h.bl hs⟩
  · cases rd; cases re
    obtain ⟨as, p1⟩ := Dp.reads I (.str _) _ v (.str _) rx
    obtain ⟨bs, q1⟩ := Dp.reads I (.str _) _ u (.str _) ry
    exact PySem.W.lt_data p1 q1 (by simp only [PySem.W.alike]) (fun z => by cases z) (by simp only [PyData.depth]; omega) ⟨.bl _, H, I, rfl, h.bl hs⟩
  · obtain ⟨a, b, h1, h2, hal, h⟩ := h
    obtain ⟨⟨as, p1⟩, p2, p3⟩ := reads_of I hK hs h1 rd rx
    obtain ⟨⟨bs, q1⟩, q2, q3⟩ := reads_of I hK hs h2 re ry
    exact PySem.W.lt_data p1 q1 hal (fun z => by subst z; simp only [dat, Option.map_eq_some_iff] at h1; obtain ⟨_, _, z⟩ := h1; cases z) (by omega) ⟨.bl _, H, I, rfl, h.bl hs⟩
  · obtain ⟨a, b, h1, h2, hal, h⟩ := h
    obtain ⟨⟨as, p1⟩, p2, p3⟩ := reads_of I hK hs h1 rd rx
    obtain ⟨⟨bs, q1⟩, q2, q3⟩ := reads_of I hK hs h2 re ry
    exact PySem.W.gt_data p1 q1 hal (fun z => by subst z; simp only [dat, Option.map_eq_some_iff] at h1; obtain ⟨_, _, z⟩ := h1; cases z) (by omega) ⟨.bl _, H, I, rfl, h.bl hs⟩
  · obtain ⟨a, b, h1, h2, hal, h⟩ := h
    obtain ⟨⟨as, p1⟩, p2, p3⟩ := reads_of I hK hs h1 rd rx
    obtain ⟨⟨bs, q1⟩, q2, q3⟩ := reads_of I hK hs h2 re ry
    exact PySem.W.le_data p1 q1 hal (fun z => by subst z; simp only [dat, Option.map_eq_some_iff] at h1; obtain ⟨_, _, z⟩ := h1; cases z) (by omega) ⟨.bl _, H, I, rfl, h.bl hs⟩
  · cases rd; cases re; exact op_le pins s σ H _ _ v u Q I rx ry ⟨_, _, rfl, rfl, h.bl hs⟩
  · cases rd; cases re; exact op_gt pins s σ H _ _ v u Q I rx ry ⟨_, _, rfl, rfl, h.bl hs⟩
  · cases rd; cases re; exact op_ge pins s σ H _ _ v u Q I rx ry ⟨_, _, rfl, rfl, h.bl hs⟩
  · obtain ⟨a, b, h1, h2, h⟩ := h
    obtain ⟨⟨as, p1⟩, p2, p3⟩ := reads_of I hK hs h1 rd rx
    obtain ⟨⟨bs, q1⟩, q2, q3⟩ := reads_of I hK hs (e60 ⟨_, rfl, h2⟩) re ry
    simp only [PyData.plain, PyData.depth] at q2 q3
    exact PySem.SeqAt.in_tuple_data q1 p1 q2 p2 (by omega) ⟨.bl _, H, I, rfl, h.bl hs⟩
  · obtain ⟨a, b, h1, h2, h⟩ := h
    obtain ⟨⟨as, p1⟩, p2, p3⟩ := reads_of I hK hs h1 rd rx
    obtain ⟨⟨bs, q1⟩, q2, q3⟩ := reads_of I hK hs (e60 ⟨_, rfl, h2⟩) re ry
    simp only [PyData.plain, PyData.depth] at q2 q3
    exact PySem.SeqAt.notIn_tuple_data q1 p1 q2 p2 (by omega) ⟨.bl _, H, I, rfl, h.bl hs⟩
  · rcases h with ⟨ys, a, bs, h0, h1, h2, h⟩ | ⟨kvs, h0, hk, h⟩
    · obtain ⟨⟨as, p1⟩, p2, p3⟩ := reads_of I hK hs h1 rd rx
      obtain ⟨⟨bs, q1⟩, q2, q3⟩ := reads_of I hK hs (e61 h0 h2) re ry
      simp only [PyData.plain, PyData.depth] at q2 q3
      exact PySem.SeqAt.in_list_data q1 p1 q2 p2 (by omega) ⟨.bl _, H, I, rfl, h.bl hs⟩
    · obtain ⟨n, ks, _, n1, q1, r1⟩ := hs.dic h0
      cases re
      rw [n1] at ry
      cases ry
      obtain ⟨k, rfl, rfl⟩ := keyD_inv hk rd
      refine d_in (by omega) I (DGet.k (k := k) q1) rx fun s' I' => ⟨.bl _, H, I', rfl, ?_⟩
      rw [r1.isSome]
      exact h.bl hs
  · rcases h with ⟨ys, a, bs, h0, h1, h2, h⟩ | ⟨kvs, h0, hk, h⟩
    · obtain ⟨⟨as, p1⟩, p2, p3⟩ := reads_of I hK hs h1 rd rx
      obtain ⟨⟨bs, q1⟩, q2, q3⟩ := reads_of I hK hs (e61 h0 h2) re ry
      simp only [PyData.plain, PyData.depth] at q2 q3
      exact PySem.SeqAt.notIn_list_data q1 p1 q2 p2 (by omega) ⟨.bl _, H, I, rfl, h.bl hs⟩
    · obtain ⟨n, ks, _, n1, q1, r1⟩ := hs.dic h0
      cases re
      rw [n1] at ry
      cases ry
      obtain ⟨k, rfl, rfl⟩ := keyD_inv hk rd
      refine d_notIn (by omega) I (DGet.k (k := k) q1) rx fun s' I' => ⟨.bl _, H, I', rfl, ?_⟩
      rw [r1.isSome]
      exact h.bl hs
  · exact h.elim
end
end PL
end

section
set_option Elab.async false
set_option linter.all false
set_option maxRecDepth 100000
namespace PL
open PySem PySem.Spec PyProof.Rows L2

section
variable {K : Kc} {H : Hp} {s : PL.S}
theorem items_of (hs : RepS K H s) {d : D} {xs : List D} {x : V} (e : itemsOf s d = some xs) (r : RepD K H d x) : ∃ p vs, x = .ref p ∧ (SqL K.K H p vs ∨ SqX K.K H p vs) ∧ RepDs K H xs vs := by
  unfold itemsOf at e
  split at e
  · cases e
    obtain ⟨a, vs, rfl, q, rr⟩ := r.tupI
    exact ⟨a, vs, rfl, .inr q, rr⟩
  · next a =>
    cases r
    obtain ⟨vs, q, rr⟩ := hs.seq e
    exact ⟨_, vs, rfl, .inl q, rr⟩
  · cases e
theorem RepDs.one_inv {d : D} {vs : List V} (r : RepDs K H [d] vs) : ∃ v, vs = [v] ∧ RepD K H d v := by
  simp only [RepDs] at r
  obtain ⟨v, t, rfl, q, rfl⟩ := r
  exact ⟨v, rfl, q⟩
theorem RepDs.two_inv {d e : D} {vs : List V} (r : RepDs K H [d, e] vs) : ∃ v w, vs = [v, w] ∧ RepD K H d v ∧ RepD K H e w := by
  simp only [RepDs] at r
  obtain ⟨v, t, rfl, q, w, t', rfl, q', rfl⟩ := r
  exact ⟨v, w, rfl, q, q'⟩
end
section
variable {X : Cx} {K : Kc} {H : Hp} {s : PL.S} {pins : List (Addr × Obj)} {σ : L2.St} {sh : Shared}
/-- what is walked by a builtin: a list or a tuple of the heap -/
theorem seq_of (I : Inv X pins σ H sh) (hK : K.K = X.K) {p : Addr} {vs : List V} (h : SqL K.K H p vs ∨ SqX K.K H p vs) : ∃ its, Vals vs its ∧ (sh.heap.IsList p its.toArray ∨ IsTup sh.heap p its.toArray) ∧ vs.length ≤ sizeLine := by
  rw [hK] at h
  rcases h with h | h
  · obtain ⟨its, r, pl, z⟩ := I.list h
    exact ⟨its, r, .inl pl.isList, z⟩
  · obtain ⟨its, r, pl, z⟩ := I.tuple h.t
    exact ⟨its, r, .inr pl, z⟩
end
/-- a builtin by values -/
def rC (K : Kc) (w : List D → PL.S → Post → Prop) : List V → Hp → VK → Prop := fun vs H Q => ∃ ds s, RepDs K H ds vs ∧ RepS K H s ∧ w ds s (PQ K H Q)
section
variable {X : Cx} {K : Kc}
theorem bi_len (hK : K.K = X.K) : CallR X (.builtin "len") (rC K wpLen) := by
  intro pins s σ H xs us Q I r ⟨ds, t, rd, hs, h⟩
  unfold wpLen at h
  split at h
  · next x =>
    obtain ⟨v, rfl, q⟩ := rd.one_inv
    cases q
    obtain ⟨h1, h2⟩ := h
    exact call_len_str pins s σ H _ us Q I r ⟨x, rfl, by rw [lim_eq]; exact h1, h2.int hs⟩
  · next xs =>
    obtain ⟨v, rfl, q⟩ := rd.one_inv
    obtain ⟨a, vs, rfl, q1, r1⟩ := q.tupI
    exact call_len_seq pins s σ H _ us Q I r ⟨a, vs, rfl, .inr (by rw [← hK]; exact q1.t), by rw [← r1.length]; exact h.int hs⟩
  · next a =>
    obtain ⟨v, rfl, q⟩ := rd.one_inv
    cases q
    split at h
    · next xs e =>
      obtain ⟨vs, q1, r1⟩ := hs.seq (xs := xs) (by unfold seqAt; rw [e])
      exact call_len_seq pins s σ H _ us Q I r ⟨_, vs, rfl, .inl (by rw [← hK]; exact q1), by rw [← r1.length]; exact h.int hs⟩
    · next xs e =>
      obtain ⟨vs, q1, r1⟩ := hs.seq (xs := xs) (by unfold seqAt; rw [e])
      exact call_len_seq pins s σ H _ us Q I r ⟨_, vs, rfl, .inl (by rw [← hK]; exact q1), by rw [← r1.length]; exact h.int hs⟩
    · next kvs e =>
      obtain ⟨n, ks, _, n1, q1, r1⟩ := hs.dic e
      rw [n1] at r
      exact call_lenD pins s σ H _ us Q I r ⟨n, ks, rfl, q1, by rw [← r1.length]; exact h.int hs⟩
    · exact h.elim
  · exact h.elim
theorem bi_abs : CallR X (.builtin "abs") (rC K wpAbs) := by
  intro pins s σ H xs us Q I r ⟨ds, t, rd, hs, h⟩
  unfold wpAbs at h
  split at h
  · obtain ⟨v, rfl, q⟩ := rd.one_inv
    cases q
    exact call_abs pins s σ H _ us Q I r ⟨_, rfl, h.int hs⟩
  · exact h.elim
theorem bi_int : CallR X (.type "int") (rC K wpInt) := by
  intro pins s σ H xs us Q I r ⟨ds, t, rd, hs, h⟩
  unfold wpInt at h
  split at h
  · obtain ⟨v, rfl, q⟩ := rd.one_inv
    cases q
    exact call_int1 pins s σ H _ us Q I r (.inl ⟨_, rfl, h.int hs⟩)
  · obtain ⟨v, rfl, q⟩ := rd.one_inv
    cases q
    exact call_int1 pins s σ H _ us Q I r (.inr ⟨_, rfl, h.int hs⟩)
  · exact h.elim
theorem bi_list (hK : K.K = X.K) : CallR X (.type "list") (rC K wpList) := by
  intro pins s σ H xs us Q I r ⟨ds, t, rd, hs, h⟩
  unfold wpList at h
  split at h
  · obtain ⟨v, rfl, q⟩ := rd.one_inv
    obtain ⟨xs, e, h⟩ := h
    obtain ⟨p, vs, rfl, q1, r1⟩ := items_of hs e q
    exact call_list_of pins s σ H _ us Q I r ⟨p, vs, rfl, by rw [← hK]; exact q1.imp id SqX.t, fun l hl => PQ.newL h hs r1 hl⟩
  · exact h.elim
theorem bi_tuple (hK : K.K = X.K) : CallR X (.type "tuple") (rC K wpTuple) := by
  intro pins s σ H xs us Q I r ⟨ds, t, rd, hs, h⟩
  unfold wpTuple at h
  split at h
  · obtain ⟨v, rfl, q⟩ := rd.one_inv
    obtain ⟨xs, e, h⟩ := h
    obtain ⟨p, vs, rfl, q1, r1⟩ := items_of hs e q
    refine call_tupleX pins s σ H _ us Q I r ⟨p, vs, rfl, ?_⟩
    rw [← hK]
    rcases q1 with q1 | q1
    · exact .inl ⟨q1, fun l us hl => PQ.newT h hs r1 hl⟩
    · exact .inr ⟨q1.t, h.here (RepD.tupM q1 r1) hs⟩
  · exact h.elim
theorem bi_sum (hK : K.K = X.K) (hc : X.calm = true) : CallR X (.builtin "sum") (rC K wpSum) := by
  intro pins s σ H xs us Q I r ⟨ds, t, rd, hs, h⟩
  unfold wpSum at h
  split at h
  · obtain ⟨v, rfl, q⟩ := rd.one_inv
    obtain ⟨xs, ns, e, rfl, h⟩ := h
    obtain ⟨p, vs, rfl, q1, r1⟩ := items_of hs e q
    have e1 := r1.ints
    subst e1
    rw [hK] at q1
    rcases q1 with q1 | q1
    · exact cr_sum hc pins s σ H _ us Q I r ⟨p, ns, rfl, q1, h.int hs⟩
    · rw [Vals.ref1 r]
      obtain ⟨its, rv, pl, _⟩ := I.tuple q1.t
      obtain ⟨zs, ez⟩ := rv.ints.allInts.items
      have hn : numsOf (intItems zs).toList = ns := by rw [← ez]; exact rv.ints.numsOf
      rw [nums_intItems] at hn
      rw [ez] at pl
      refine PySem.W.ktm_sumG (I.ok.hd hc) pl fun h' tk t' hk => ?_
      refine ⟨.int ns.sum, H, I.kept hk, ⟨t', ?_⟩, h.int hs⟩
      rw [preSum_eq, List.take_of_length_le (by simp), hn]
  · exact h.elim
theorem bools_plain : ∀ bs : List Bool, PyData.plainAll (bs.map PyData.bool) = true
  | [] => rfl
  | b :: r => by simp only [List.map_cons, PyData.plainAll, PyData.plain, bools_plain r, Bool.and_self]
theorem bools_mapM (s : PL.S) (n : Nat) : ∀ bs : List Bool, (bs.map D.bl).mapM (dat s n) = some (bs.map PyData.bool)
  | [] => rfl
  | b :: r => by
    rw [List.map_cons, List.mapM_cons, bools_mapM s n r]
    cases n <;> rfl
theorem bi_all (hK : K.K = X.K) (hc : X.calm = true) : CallR X (.builtin "all") (rC K wpAllB) := by
  intro pins s σ H xs us Q I r ⟨ds, t, rd, hs, h⟩
  unfold wpAllB at h
  split at h
  · obtain ⟨v, rfl, q⟩ := rd.one_inv
    obtain ⟨xs, bs, e, rfl, h⟩ := h
    obtain ⟨p, vs, rfl, q1, r1⟩ := items_of hs e q
    obtain ⟨its, rv, q2, _⟩ := seq_of I hK q1
    obtain ⟨⟨as, ra⟩, _, _⟩ := readsAll_of I hK hs (bools_mapM _ 50 bs) r1 rv
    rw [Vals.ref1 r]
    have fin : ∀ h' tk, (∀ b o, s.heap.get? b = some o → h'.get? b = some o) → EP X pins σ Q (.bool ((bs.map PyData.bool).all PyData.truthy)) { s with heap := h', toks := tk } := fun h' tk hk => by
      have e1 : (bs.map PyData.bool).all PyData.truthy = bs.all id := by rw [List.all_map]; rfl
      rw [e1]
      exact ⟨.bl _, H, I.kept hk, rfl, h.bl hs⟩
    have hf : ∀ x ∈ bs.map PyData.bool, x.fits63 := fun x hx => by obtain ⟨b, _, rfl⟩ := List.mem_map.mp hx; exact trivial
    rcases q2 with q2 | q2
    · exact PySem.W.all_list_data (I.ok.hd hc) q2 (by simpa using ra) (bools_plain bs) hf fin
    · exact PySem.W.all_tuple_data (I.ok.hd hc) q2 (by simpa using ra) (bools_plain bs) hf fin
  · exact h.elim
theorem bi_any (hK : K.K = X.K) (hc : X.calm = true) : CallR X (.builtin "any") (rC K wpAnyB) := by
  intro pins s σ H xs us Q I r ⟨ds, t, rd, hs, h⟩
  unfold wpAnyB at h
  split at h
  · obtain ⟨v, rfl, q⟩ := rd.one_inv
    obtain ⟨xs, bs, e, rfl, h⟩ := h
    obtain ⟨p, vs, rfl, q1, r1⟩ := items_of hs e q
    obtain ⟨its, rv, q2, _⟩ := seq_of I hK q1
    obtain ⟨⟨as, ra⟩, _, _⟩ := readsAll_of I hK hs (bools_mapM _ 50 bs) r1 rv
    rw [Vals.ref1 r]
    have fin : ∀ h' tk, (∀ b o, s.heap.get? b = some o → h'.get? b = some o) → EP X pins σ Q (.bool ((bs.map PyData.bool).any PyData.truthy)) { s with heap := h', toks := tk } := fun h' tk hk => by
      have e1 : (bs.map PyData.bool).any PyData.truthy = bs.any id := by rw [List.any_map]; rfl
      rw [e1]
      exact ⟨.bl _, H, I.kept hk, rfl, h.bl hs⟩
    have hf : ∀ x ∈ bs.map PyData.bool, x.fits63 := fun x hx => by obtain ⟨b, _, rfl⟩ := List.mem_map.mp hx; exact trivial
    rcases q2 with q2 | q2
    · exact PySem.W.any_list_data (I.ok.hd hc) q2 (by simpa using ra) (bools_plain bs) hf fin
    · exact PySem.W.any_tuple_data (I.ok.hd hc) q2 (by simpa using ra) (bools_plain bs) hf fin
  · exact h.elim
end
end PL
end

section
set_option Elab.async false
set_option linter.all false
set_option maxRecDepth 100000
namespace PL
open PySem PySem.Spec PyProof.Rows L2 PySem.W PySem.Calls

section
variable {prog : Program} {w : World} {A : Around} {E : Value → Shared → Prop} {s : Shared}
/-- what a tuple gives to list.extend's copy -/
theorem collect_tup {l : Addr} {vs : List Value} {Q : List Value → Shared → Prop} (hl : s.heap.IsTuple l vs.toArray) (hsz : vs.length ≤ sizeLine)
    (h : Q vs { s with heap := (s.heap.push (seqObj "list" #[] 0)).update s.heap.objs.size (Obj.mapSeq (· ++ vs.toArray)) }) : wpAny (model prog w) A (collect (.ref l)) Q E s := by
  obtain ⟨o, e1, e2, n, e3⟩ := id hl
  unfold collect
  refine wpAny_bind (wpAny_runValue (codeAny_builtin entry_proto_collect' ?_))
  show wpAny _ _ (do again (.builtin "list.__iadd__" ⟨[← newList [], .ref l], []⟩)) _ _ s
  refine wpAny_bind (wpAny_newList (wpAny_pure ⟨Code.quiet_builtin _ (by decide +kernel), codeAny_builtin entry_list_iadd' ?_⟩))
  have e1' : (s.heap.push (seqObj "list" #[] 0)).get? l = some o := Heap.get?_push_of_some _ e1
  show wpAny _ _ (Builtin.List.listExtendWith (.ref s.heap.objs.size) (.ref l) (.ref s.heap.objs.size)) _ _ { s with heap := s.heap.push (seqObj "list" #[] 0) }
  unfold Builtin.List.listExtendWith
  refine wpAny_bind (wpAny_typeOf (T := "tuple") ⟨o, e1', e2⟩ ?_)
  have ht : (Value.type "tuple" == Value.type "tuple") = true := beq_self_eq_true _
  rw [if_pos (by rw [ht, Bool.or_true])]
  refine wpAny_bind (listItems_at e1' e3 (wpAny_bind (listItems_at (xs := #[]) (n := 0) (Heap.get?_push_size _ rfl) rfl ?_)))
  rw [if_neg (by simp)]
  refine wpAny_bind (listUpdate_at (xs := #[]) (n := 0) (Heap.get?_push_size _ rfl) rfl (wpAny_pure ?_) (Nat.zero_le _) (by show (#[] ++ vs.toArray).size ≤ sizeLine + 1; simp only [Array.size_append, List.size_toArray, List.length_nil]; omega))
  show wpAny (model prog w) A (do
      let o ← load s.heap.objs.size
      match o.data with
      | .seq xs _ => pure xs.toList
      | _ => unsupported "internal:collect") Q E { s with heap := (s.heap.push (seqObj "list" #[] 0)).update s.heap.objs.size (Obj.mapSeq (· ++ vs.toArray)) }
  refine wpAny_bind (wpAny_load (get?_update_seq (Heap.get?_push_size _ rfl) _) ?_)
  show wpAny _ _ (pure ((#[] : Array Value) ++ vs.toArray).toList) Q E _
  have e4 : ((#[] : Array Value) ++ vs.toArray).toList = vs := by simp
  rw [e4]
  exact wpAny_pure h
/-- sorted(t), sorted(l): by the sort of the copy -/
theorem sorted_by {l : Addr} {vs : List Value} {kw : List (Str × Value)} {Q : Value → Shared → Prop} (hl : s.heap.IsList l vs.toArray ∨ s.heap.IsTuple l vs.toArray) (hL : vs.length ≤ sizeLine) (ha1 : argsOk "sorted" ⟨[.ref l], kw⟩) (ha2 : ∀ x, argsOk "list.sort" ⟨[.ref x], kw⟩)
    (body : ∀ E' : Value → Shared → Prop, wpAny (model prog w) A.in1.in1 (Builtin.«list.sort» ⟨[.ref (s.heap.objs.size + 1)], kw⟩) (fun f s' => f = .done (.ret .none) ∧ Q (.ref (s.heap.objs.size + 1)) s') E' { s with heap := copyHeap s.heap vs }) :
    wpAny (model prog w) A (call (.builtin "sorted") [.ref l] kw) Q E s := by
  rcases hl with hl | hl
  · exact sorted_of_sort hl hL ha1 ha2 body
  · refine call_function_entry_kw kind_sorted plain_sorted entry_sorted ha1 ?_
    unfold Builtin.«sorted»
    refine wpAny_bind (m := checkCount "sorted" 1 1 _) (wpAny_pure (wpAny_bind (collect_tup hl hL (wpAny_bind (wpAny_newList ?_ hL)))))
    have hsz : ((s.heap.push (seqObj "list" #[] 0)).update s.heap.objs.size (Obj.mapSeq (· ++ vs.toArray))).objs.size = s.heap.objs.size + 1 := by rw [Heap.size_update, size_push']
    show wpAny _ _ _ _ _ { s with heap := copyHeap s.heap vs }
    rw [hsz]
    refine wpAny_bind (wpAny_holding (wpAny_call_entry_kw slot_list_sort ⟨_, copyHeap_at s.heap vs, rfl⟩ entry_list_sort ?body (ha2 _)))
    case body =>
      refine wpAny_mono (body _) (fun f s' hf => ?_) fun _ _ e => e
      obtain ⟨rfl, hq⟩ := hf
      exact ⟨_, rfl, wpAny_pure ⟨_, rfl, hq⟩⟩
section
variable {β : Type} {vs : List Value} {bs : List β} {enc : β → PyData} {R : Value → β → Prop}
theorem sorted_dataT {l : Addr} {Q : Value → Shared → Prop} (hl : s.heap.IsList l vs.toArray ∨ s.heap.IsTuple l vs.toArray) (e : EachIs R vs bs) (er : EachIs (fun v b => ∃ as, Reads s.heap v (enc b) as) vs bs) (hal : AllAlike (bs.map enc)) (hk : Sortable (bs.map enc)) (hL : bs.length ≤ sizeLine)
    (hu : ∀ b, b ∈ bs → A.units + 2 + (enc b).depth < cLine) (h : ∀ out, out.length = bs.length → EachIs R out (bs.mergeSort (dataLe false enc)) → Q (.ref (s.heap.objs.size + 1)) { s with heap := sortedAll s.heap vs (List.toArray out) }) :
    wpAny (model prog w) A (call (.builtin "sorted") [.ref l]) Q E s := by
  have er' : EachIs (fun v b => ∃ as, Reads (sortingHeap (copyHeap s.heap vs) (s.heap.objs.size + 1) vs) v (enc b) as) vs bs := er.mono fun _ _ ⟨as, r⟩ => ⟨as, PyProof.Rows.Reads.keeps (fun _ _ => sorting_copy_old) r⟩
  have S := SortsAt.data (prog := prog) (w := w) (A := A.in1.in1) (s := { s with heap := sortingHeap (copyHeap s.heap vs) (s.heap.objs.size + 1) vs }) (each_map (R := fun v d => ∃ as, Reads (sortingHeap (copyHeap s.heap vs) (s.heap.objs.size + 1) vs) v d as) enc er') hal hk (bound_map hu)
  exact sorted_by hl (by rw [e.length]; exact hL) (args_sorted1 _) (fun _ => args_list_sort _) fun _ => list_sort_vals (s := { s with heap := copyHeap s.heap vs }) (copyHeap_at s.heap vs) S (by rw [e.length]; exact hL)
    ⟨rfl, h _ (by rw [sortVals_length false rfl]; exact e.length) (sortVals_data false e er' hal)⟩
theorem sorted_rev_dataT {l : Addr} {b : Bool} {Q : Value → Shared → Prop} (hl : s.heap.IsList l vs.toArray ∨ s.heap.IsTuple l vs.toArray) (e : EachIs R vs bs) (er : EachIs (fun v b => ∃ as, Reads s.heap v (enc b) as) vs bs) (hal : AllAlike (bs.map enc)) (hk : Sortable (bs.map enc)) (hL : bs.length ≤ sizeLine)
    (hu : ∀ b, b ∈ bs → A.units + 2 + (enc b).depth < cLine) (h : ∀ out, out.length = bs.length → EachIs R out (bs.mergeSort (dataLe b enc)) → Q (.ref (s.heap.objs.size + 1)) { s with heap := sortedAll s.heap vs (List.toArray out) }) :
    wpAny (model prog w) A (call (.builtin "sorted") [.ref l] [(Str.ofString "reverse", .bool b)]) Q E s := by
  have er' : EachIs (fun v b => ∃ as, Reads (sortingHeap (copyHeap s.heap vs) (s.heap.objs.size + 1) vs) v (enc b) as) vs bs := er.mono fun _ _ ⟨as, r⟩ => ⟨as, PyProof.Rows.Reads.keeps (fun _ _ => sorting_copy_old) r⟩
  have S := SortsAt.data (prog := prog) (w := w) (A := A.in1.in1) (s := { s with heap := sortingHeap (copyHeap s.heap vs) (s.heap.objs.size + 1) vs }) (each_map (R := fun v d => ∃ as, Reads (sortingHeap (copyHeap s.heap vs) (s.heap.objs.size + 1) vs) v d as) enc er') hal hk (bound_map hu)
  exact sorted_by hl (by rw [e.length]; exact hL) (args_sorted_rev _ _) (fun _ => args_list_sort_rev _ _) fun _ => list_sort_rev_vals (s := { s with heap := copyHeap s.heap vs }) (copyHeap_at s.heap vs) S (by rw [e.length]; exact hL)
    ⟨rfl, h _ (by rw [sortVals_length b rfl]; exact e.length) (sortVals_data b e er' hal)⟩
end
end

/-- item by item: a datum of ours and its value -/
theorem EachIs.split {K : Kc} {H : Hp} : ∀ {us : List Value} {ds : List D}, EachIs (fun u d => ∃ x, RelV x u ∧ RepD K H d x) us ds → ∃ xs, Vals xs us ∧ RepDs K H ds xs
  | _, _, .nil => ⟨[], .nil, RepDs.nil⟩
  | _, _, .cons ⟨x, r, q⟩ t => by
    obtain ⟨xs, h1, h2⟩ := EachIs.split t
    exact ⟨x :: xs, .cons r h1, RepDs.cons q h2⟩
theorem EachIs.join {K : Kc} {H : Hp} : ∀ {ds : List D} {xs : List V} {us : List Value}, Vals xs us → RepDs K H ds xs → EachIs (fun u d => ∃ x, RelV x u ∧ RepD K H d x) us ds
  | [], xs, us, r, q => by cases q; cases r; exact .nil
  | d :: ds, xs, us, r, q => by
    simp only [RepDs] at q
    obtain ⟨v, t, rfl, q1, q2⟩ := q
    cases r with
    | cons r1 r2 => exact .cons ⟨v, r1, q1⟩ (EachIs.join r2 q2)
theorem EachIs.imp2 {α β : Type} {R : α → β → Prop} {R' : α → β → Prop} : ∀ {xs : List α} {ys : List β}, EachIs R xs ys → (∀ a b, b ∈ ys → R a b → R' a b) → EachIs R' xs ys
  | _, _, .nil, _ => .nil
  | _, _, .cons r t, h => .cons (h _ _ (by simp) r) (EachIs.imp2 t fun a b hb => h a b (by simp [hb]))
theorem mapM_mem {α β : Type} {f : α → Option β} : ∀ {xs : List α} {ys : List β}, xs.mapM f = some ys → ∀ x ∈ xs, ∃ y, f x = some y
  | [], _, _, x, hx => by cases hx
  | a :: xs, ys, h, x, hx => by
    obtain ⟨y, r, h1, h2, rfl⟩ := mapM_cons_some h
    rcases List.mem_cons.mp hx with rfl | hx
    · exact ⟨y, h1⟩
    · exact mapM_mem h2 x hx
theorem mapM_map {s : PL.S} : ∀ {xs : List D} {ys : List PyData}, xs.mapM (dat s 50) = some ys → xs.map (datD s) = ys
  | [], ys, h => by simp at h; subst h; rfl
  | a :: xs, ys, h => by
    obtain ⟨y, r, h1, h2, rfl⟩ := mapM_cons_some h
    rw [List.map_cons, mapM_map h2]
    unfold datD
    rw [h1]; rfl
section
variable {X : Cx} {K : Kc}
theorem sort_core {rev : Bool} (hK : K.K = X.K) (hu : X.A.units + 65 < cLine) {pins : List (Addr × Obj)} {s : Shared} {σ : L2.St} {H : Hp} {Q : VK} {t : PL.S} {xs : List D} {ds : List PyData} {p : Addr} {vs : List V} (I : Inv X pins σ H s) (hs : RepS K H t)
    (q1 : SqL K.K H p vs ∨ SqX K.K H p vs) (r1 : RepDs K H xs vs) (hd : Sorts t xs ds) (h : newO (.lst (sortS t rev xs)) t (PQ K H Q)) :
    ∃ its, (s.heap.IsList p its.toArray ∨ s.heap.IsTuple p its.toArray) ∧ EachIs (fun u d => ∃ x, RelV x u ∧ RepD K H d x) its xs ∧ EachIs (fun v b => ∃ as, Reads s.heap v (datD t b) as) its xs ∧ AllAlike (xs.map (datD t)) ∧ Sortable (xs.map (datD t)) ∧ xs.length ≤ sizeLine ∧
      (∀ b, b ∈ xs → X.A.units + 2 + (datD t b).depth < cLine) ∧
      ∀ out, out.length = xs.length → EachIs (fun u d => ∃ x, RelV x u ∧ RepD K H d x) out (xs.mergeSort (dataLe rev (datD t))) → EP X pins σ Q (.ref (s.heap.objs.size + 1)) { s with heap := sortedAll s.heap its (List.toArray out) } := by
  obtain ⟨its, rv, q2, hz⟩ := seq_of I hK q1
  obtain ⟨hm, hal, hso⟩ := hd
  have e1 := mapM_map hm
  have ej := EachIs.join rv r1
  refine ⟨its, q2, ej, ?_, by rw [e1]; exact hal, by rw [e1]; exact hso, by rw [r1.length]; exact hz, fun b hb => ?_, fun out hl ho => ?_⟩
  · refine EachIs.imp2 ej fun u d hd ⟨x, ru, qd⟩ => ?_
    obtain ⟨a, ha⟩ := mapM_mem hm d hd
    have e2 : datD t d = a := by unfold datD; rw [ha]; rfl
    rw [e2]
    exact (reads_of I hK hs ha qd ru).1
  · obtain ⟨a, ha⟩ := mapM_mem hm b hb
    have e2 : datD t b = a := by unfold datD; rw [ha]; rfl
    obtain ⟨v, hv⟩ := List.mem_iff_getElem?.mp hb
    obtain ⟨x, hx, qx⟩ := r1.get hv
    obtain ⟨u, hu', ru⟩ := rv.get hx
    have := (reads_of I hK hs ha qx ru).2.2
    rw [e2]; omega
  · obtain ⟨ys, ry, qy⟩ := EachIs.split ho
    have hzl : ys.length ≤ sizeLine := by rw [ry.length, hl, r1.length]; exact hz
    have hf : H (s.heap.objs.size + 1) = none := I.hok.fresh (Nat.le_succ _)
    refine ⟨.ref (s.heap.objs.size + 1), upd H (s.heap.objs.size + 1) (.lst ys), I.laid (t' := s.toks) (fun b o e => sortedAll_old e) (Nat.le_succ _) ?_, rfl, PQ.newL h hs qy hf⟩
    obtain ⟨n, hn⟩ := sortedAll_at s.heap its out.toArray
    exact ⟨hzl, out, n, ry, hn⟩
theorem bi_sorted (hK : K.K = X.K) (hu : X.A.units + 65 < cLine) : CallR X (.builtin "sorted") (rC K (wpSorted false)) := by
  intro pins s σ H xs us Q I r ⟨ds, t, rd, hs, h⟩
  unfold wpSorted at h
  split at h
  · obtain ⟨v, rfl, q⟩ := rd.one_inv
    obtain ⟨xs, zs, e, hd, h⟩ := h
    obtain ⟨p, vs, rfl, q1, r1⟩ := items_of hs e q
    rw [Vals.ref1 r]
    obtain ⟨its, a1, a2, a3, a4, a5, a6, a7, a8⟩ := sort_core hK hu I hs q1 r1 hd h
    exact sorted_dataT a1 a2 a3 a4 a5 a6 a7 a8
  · exact h.elim
end
end PL
end

section
set_option Elab.async false
set_option linter.all false
set_option maxRecDepth 100000
namespace PL
open PySem PySem.Spec PyProof.Rows L2

section
variable {X : Cx} {K : Kc}
theorem cutIx_eq (n d : Nat) (o : Option Int) : cutIx n d o = HT.sIx n d o := by
  cases o with
  | none => rfl
  | some v => rfl
theorem ix_ok (hK : K.K = X.K) (hu : X.A.units + 65 < cLine) : IxR X (rV K wpIx) := by
  intro value slice pins s σ H x y v u Q I rx ry ⟨d, e, t, rd, re, hs, h⟩ hsl
  unfold wpIx at h
  split at h
  · next _ _ xs i =>
    obtain ⟨a, vs, rfl, qa, ra⟩ := rd.tupI
    cases re
    obtain ⟨d, e, h⟩ := h
    unfold atD at e
    obtain ⟨j, e1, e2⟩ := Option.bind_eq_some_iff.mp e
    obtain ⟨w, e3, rw'⟩ := ra.get e2
    refine ix_tup value slice pins s σ H _ _ v u Q I rx ry ⟨a, vs, i, w, rfl, rfl, by rw [← hK]; exact qa.t, ?_, h.here rw' hs⟩ hsl
    unfold atI
    rw [← ra.length]
    show (ixOf xs.length i).bind _ = _
    rw [e1]; exact e3
  · next _ _ x i =>
    cases rd; cases re
    obtain ⟨hl, j, c, e1, e2, h⟩ := h
    refine ix_str value slice pins s σ H _ _ v u Q I rx ry ⟨x, i, c, rfl, rfl, by rw [lim_eq]; exact hl, ?_, h.str hs⟩ hsl
    unfold atI
    show (ixOf x.cps.toList.length i).bind _ = _
    rw [e1]; exact e2
  · next _ _ a k =>
    cases rd
    rcases h with ⟨xs, i, d, rfl, e0, e, h⟩ | ⟨kvs, d, e0, hk, e, h⟩
    · cases re
      obtain ⟨vs, q1, r1⟩ := hs.seq e0
      unfold atD at e
      obtain ⟨j, e1, e2⟩ := Option.bind_eq_some_iff.mp e
      obtain ⟨w, e3, rw'⟩ := r1.get e2
      refine ix_list value slice pins s σ H _ _ v u Q I rx ry ⟨_, vs, i, w, rfl, rfl, by rw [← hK]; exact q1, ?_, h.here rw' hs⟩ hsl
      unfold atI
      rw [← r1.length]
      show (ixOf xs.length i).bind _ = _
      rw [e1]; exact e3
    · obtain ⟨n, ks, _, n1, q1, r1⟩ := hs.dic e0
      rw [n1] at rx
      cases rx
      obtain ⟨k', rfl, rfl⟩ := keyD_inv hk re
      obtain ⟨w, e3, rw'⟩ := r1.some e
      have g : DGet H n (kV k') (some w) := by rw [← e3]; exact DGet.k q1
      exact tail_any (dict_typeIs I g) PySem.F.slot_dict_getitem.lookup (d_getItem (by omega) I g ry fun w' s' I' rw2 => ⟨w, H, I', rw2, h.here rw' hs⟩) hsl
  · exact h.elim
theorem get_ok (hK : K.K = X.K) (hu : X.A.units + 65 < cLine) : PGet X (rV K wpGet) := by
  intro pins s σ H x y v u Q I rx ry ⟨d, e, t, rd, re, hs, h⟩
  unfold wpGet at h
  split at h
  · next _ _ a k =>
    simp only [wpIx] at h
    cases rd
    rcases h with ⟨xs, i, d, rfl, e0, e, h⟩ | ⟨kvs, d, e0, hk, e, h⟩
    · cases re
      obtain ⟨vs, q1, r1⟩ := hs.seq e0
      rw [hK] at q1
      obtain ⟨its, r, pl, hz⟩ := I.list q1
      unfold atD at e
      obtain ⟨j, e1, e2⟩ := Option.bind_eq_some_iff.mp e
      obtain ⟨w, e3, rw'⟩ := r1.get e2
      obtain ⟨u', ew, ru⟩ := r.get e3
      cases rx
      obtain ⟨t', rfl⟩ := ry
      have hl := r.length
      have hl2 := r1.length
      have hn := line63
      obtain ⟨h1, h2, h3, h4⟩ := ixN_seq (show ixN xs.length i = some j from e1)
      have fin : EP X pins σ Q u' s := ⟨w, H, I, ru, h.here rw' hs⟩
      by_cases h0 : 0 ≤ i
      · have hj : i.toNat = j := by
          rw [seqIndex_of h0 h4] at h1
          exact Option.some.inj h1
        exact wpAny_getItem_list pl.isList h0 (by omega) (by rw [hj]; simpa using ew) fin
      · have hj : (i + (its.toArray.size : Int)).toNat = j := by
          rw [seqIndex_neg (by omega) h3] at h1
          rw [List.size_toArray, ← hl, ← hl2]
          exact Option.some.inj h1
        exact wpAny_getItem_list_neg pl.isList (by omega) (by rw [List.size_toArray]; omega) (by omega) (by rw [hj]; simpa using ew) fin
    · obtain ⟨n, ks, _, n1, q1, r1⟩ := hs.dic e0
      rw [n1] at rx
      cases rx
      obtain ⟨k', rfl, rfl⟩ := keyD_inv hk re
      obtain ⟨w, e3, rw'⟩ := r1.some e
      have g : DGet H n (kV k') (some w) := by rw [← e3]; exact DGet.k q1
      exact d_getItem (by omega) I g ry fun w' s' I' rw2 => ⟨w, H, I', rw2, h.here rw' hs⟩
  · exact h.elim
theorem set_ok (hK : K.K = X.K) (hu : X.A.units + 65 < cLine) : PSet X (fun o i v H Q => ∃ d e f s, RepD K H d o ∧ RepD K H e i ∧ RepD K H f v ∧ RepS K H s ∧ wpSet d e f s fun s' => ∀ H', Keep K H H' → RepS K H' s' → Q H') := by
  intro pins s σ H o i v ov iv u Q I ro ri rv ⟨d, e, f, t, rd, re, rf, hs, h⟩
  unfold wpSet at h
  split at h
  · next a k w t' Q' =>
    cases rd
    rcases h with ⟨xs, i, j, e0, rfl, e1, h⟩ | ⟨kvs, e0, hk, hl, h⟩
    · cases re
      obtain ⟨n, vs, en, n1, q1, r1⟩ := hs.lst e0
      rw [n1] at ro
      have kp : Keep K H (upd H n (.lst (vs.set j v))) := Keep.write q1 trivial
      refine set_list pins s σ H _ _ v ov iv u Q I ro ri rv ⟨n, vs, i, j, rfl, rfl, q1, by rw [← r1.length]; exact e1, h _ kp ?_⟩
      subst en
      exact hs.write q1 trivial ⟨n, _, rfl, upd_same, RepDs.keep kp _ _ (r1.set rf j)⟩
    · obtain ⟨n, ks, en, n1, q1, r1⟩ := hs.dic e0
      rw [n1] at ro
      cases ro
      obtain ⟨k', rfl, rfl⟩ := keyD_inv hk re
      have kp : Keep K H (upd H n (.dK (putK ks k' v))) := Keep.write q1 trivial
      refine d_setItem (by omega) I (DPut.k q1 (by rw [lim_eq, ← r1.length]; exact hl)) ri rv fun s' I' => ⟨_, I', h _ kp ?_⟩
      subst en
      exact hs.write q1 trivial ⟨n, _, rfl, upd_same, RepKV.keep kp _ _ (r1.put rf)⟩
  · exact h.elim
theorem sl_ok (hK : K.K = X.K) : SlR X (fun x lo hi H Q => ∃ d s, RepD K H d x ∧ RepS K H s ∧ wpSl d lo hi s (PQ K H Q)) := by
  intro pins s σ H x v vl vu lo hi sl Q I rx hsl pl pu ⟨d, t, rd, hs, h⟩
  have cl : ∀ {xs : List D} {vs : List V}, RepDs K H xs vs → RepDs K H (cutD xs lo hi) (cutV vs lo hi) := fun {xs vs} r => by
    unfold cutD cutV
    rw [cutIx_eq, cutIx_eq, ← r.length]
    exact (r.drop _).take _
  cases d with
  | tup xs =>
    simp only [wpSl] at h
    obtain ⟨a, vs, rfl, qa, ra⟩ := rd.tupI
    refine sl_tupX pins s σ H _ v vl vu lo hi sl Q I rx hsl pl pu ⟨a, vs, rfl, by rw [← hK]; exact qa.t, fun z => ?_, fun _ p us hp => PQ.newT h hs (cl ra) hp⟩
    have e : cutV vs lo hi = vs := by unfold cutV; rw [z.1, z.2]; simp
    have r2 := cl ra
    rw [e] at r2
    exact h.here (RepD.tupM qa r2) hs
  | str x =>
    simp only [wpSl] at h
    cases rd
    obtain ⟨hl, h⟩ := h
    refine sl_str pins s σ H _ v vl vu _ _ sl Q I rx hsl pl pu ⟨x, rfl, by rw [lim_eq]; exact hl, ?_⟩
    have e : cutS x lo hi = ⟨(cutD x.cps.toList lo hi).toArray⟩ := by
      unfold cutS cutD
      rw [cutIx_eq, cutIx_eq]
      have e2 : x.cps.toList.length = x.length := by simp [Str.length]
      rw [e2]
    rw [e]
    exact h.str hs
  | loc a =>
    simp only [wpSl] at h
    cases rd
    obtain ⟨xs, e0, h⟩ := h
    obtain ⟨vs, q1, r1⟩ := hs.seq e0
    exact sl_list pins s σ H _ v vl vu lo hi sl Q I rx hsl pl pu ⟨_, vs, rfl, by rw [← hK]; exact q1, fun p hp => PQ.newL h hs (cl r1) hp⟩
  | _ => simp only [wpSl] at h
end
end PL
end

section
set_option Elab.async false
set_option linter.all false
set_option maxRecDepth 100000
namespace PL
open PySem PySem.Spec PyProof.Rows L2

section
variable {prog : Program} {w : World} {A : Around} {E : Value → Shared → Prop} {s : Shared} {l : Addr} {vs : Array Value} {xs : List PyData} {x : Value} {d : PyData} {as bs : List Addr} {Q : Value → Shared → Prop}
theorem index_plain {j : Nat} (hl : s.heap.IsList l vs) (rs : ReadsAll s.heap vs.toList xs as) (rx : Reads s.heap x d bs) (hxs : PyData.plainAll xs = true) (hd : d.plain = true) (hu : A.units + 1 + min (PyData.depthAll xs) d.depth < cLine)
    (hp : SeqAt.dataPlace xs d = some j) (hsz : vs.size ≤ sizeLine) (h : Q (.int j s.toks) { s with toks := s.toks + 1 }) : wpAny (model prog w) A (call (.builtin "list.index") [.ref l, x]) Q E s := by
  obtain ⟨⟨cls, dd, data, sl⟩, e1, e2, n, e3⟩ := id hl
  simp only at e2 e3
  subst e2 e3
  obtain ⟨hj, hit, hno⟩ := SeqAt.hit_at rs hxs hp
  have hn := line63
  exact call_meets F.slot_list_index ⟨_, e1, rfl⟩ F.entry_list_index (F.args_list_index_2 _ _) (SeqAt.list_indexAt l vs n dd sl x _ j hj (by omega) hit hno) ⟨e1, SeqAt.items_plain rs rx hxs hd hu, h⟩
end
/-- a method by values -/
def rM (K : Kc) (f : D → List D → PL.S → Post → Prop) : V → List V → Hp → VK → Prop := fun x vs H Q => ∃ d ds s, RepD K H d x ∧ RepDs K H ds vs ∧ RepS K H s ∧ f d ds s (PQ K H Q)
theorem PQ.wrL {K : Kc} {H : Hp} {s : PL.S} {Q : VK} {l n : Nat} {ys : List D} {vs ws : List V} {d : D} {v : V} (h : PQ K H Q d (s.up l (.lst ys))) (hs : RepS K H s) (en : l = n + 1) (q1 : H n = some (.lst vs)) (r : RepDs K H ys ws) (rd : RepD K H d v) : Q v (upd H n (.lst ws)) := by
  have kp : Keep K H (upd H n (.lst ws)) := Keep.write q1 trivial
  subst en
  exact h v _ kp (RepD.keep kp _ _ rd) (hs.write q1 trivial ⟨n, _, rfl, upd_same, RepDs.keep kp _ _ r⟩)
theorem Vals.one' {x : V} {us : List Value} (h : Vals [x] us) : ∃ u, us = [u] ∧ RelV x u := Vals.one h
section
variable {X : Cx} {K : Kc}
theorem mt_app : MtR X "list.append" (rM K wpAppend) := by
  intro pins s σ H x xs v us Q I rx rxs ⟨d, ds, t, rd, rds, hs, h⟩
  unfold wpAppend at h
  split at h
  · cases rd
    obtain ⟨vs, rfl, ry⟩ := rds.one_inv
    obtain ⟨zs, e0, hl, h⟩ := h
    obtain ⟨n, ws, en, n1, q1, r1⟩ := hs.lst e0
    rw [n1] at rx
    exact mt_append pins s σ H _ _ v us Q I rx rxs ⟨n, ws, _, rfl, rfl, q1, by rw [lim_eq, ← r1.length]; exact hl, h.wrL hs en q1 (r1.append (RepDs.one ry)) rfl⟩
  · exact h.elim
theorem mt_ext : MtR X "list.extend" (rM K wpExtend) := by
  intro pins s σ H x xs v us Q I rx rxs ⟨d, ds, t, rd, rds, hs, h⟩
  unfold wpExtend at h
  split at h
  · cases rd
    obtain ⟨vs, rfl, ry⟩ := rds.one_inv
    cases ry
    obtain ⟨zs, ys, e0, e1, hl, h⟩ := h
    obtain ⟨n, ws, en, n1, q1, r1⟩ := hs.lst e0
    obtain ⟨m, ws2, em, n2, q2, r2⟩ := hs.lst e1
    rw [n1] at rx
    rw [n2] at rxs
    exact mt_extend pins s σ H _ _ v us Q I rx rxs ⟨n, m, ws, ws2, rfl, rfl, q1, q2, by rw [lim_eq, ← r1.length, ← r2.length]; exact hl, h.wrL hs en q1 (r1.append r2) rfl⟩
  · exact h.elim
theorem mt_pop1 : MtR X "list.pop" (rM K wpPopAt) := by
  intro pins s σ H x xs v us Q I rx rxs ⟨d, ds, t, rd, rds, hs, h⟩
  unfold wpPopAt at h
  split at h
  · cases rd
    obtain ⟨vs, rfl, ry⟩ := rds.one_inv
    cases ry
    obtain ⟨zs, j, d, e0, ⟨b1, b2⟩, e1, e2, h⟩ := h
    obtain ⟨n, ws, en, n1, q1, r1⟩ := hs.lst e0
    rw [n1] at rx
    obtain ⟨w, e3, rw'⟩ := r1.get e2
    refine mt_popAt pins s σ H _ _ v us Q I rx rxs ⟨n, ws, _, j, w, rfl, rfl, q1, b1, b2, ?_, e3, h.wrL hs en q1 (r1.eraseIdx j) rw'⟩
    rw [← r1.length]
    exact (ixN_seq (show ixN zs.length _ = some j from e1)).1
  · exact h.elim
theorem mt_pop0 : MtR X "list.pop" (rM K wpPopL) := by
  intro pins s σ H x xs v us Q I rx rxs ⟨d, ds, t, rd, rds, hs, h⟩
  unfold wpPopL at h
  split at h
  · cases rd
    have e : xs = [] := by simpa [RepDs] using rds
    subst e
    obtain ⟨zs, d, e0, e2, h⟩ := h
    obtain ⟨n, ws, en, n1, q1, r1⟩ := hs.lst e0
    rw [n1] at rx
    obtain ⟨w, e3, rw'⟩ := r1.get e2
    have r2 : RepDs K H zs.dropLast ws.dropLast := by
      rw [List.dropLast_eq_take, List.dropLast_eq_take, ← r1.length]
      exact r1.take _
    exact mt_pop pins s σ H _ _ v us Q I rx rxs ⟨n, ws, w, rfl, rfl, q1, by rw [← r1.length]; exact e3, h.wrL hs en q1 r2 rw'⟩
  · exact h.elim
theorem mt_ind (hK : K.K = X.K) (hu : X.A.units + 65 < cLine) : MtR X "list.index" (rM K wpIndex) := by
  intro pins s σ H x xs v us Q I rx rxs ⟨d, ds, t, rd, rds, hs, h⟩
  unfold wpIndex at h
  split at h
  · cases rd
    obtain ⟨vs, rfl, ry⟩ := rds.one_inv
    obtain ⟨u, rfl, ru⟩ := rxs.one
    obtain ⟨zs, as, y, j, e0, e1, e2, e3, h⟩ := h
    obtain ⟨ws, q1, r1⟩ := hs.seq e0
    rw [hK] at q1
    obtain ⟨its, r, pl, hz⟩ := I.list q1
    cases rx
    obtain ⟨⟨bs, p1⟩, p2, p3⟩ := readsAll_of I hK hs e1 r1 r
    obtain ⟨⟨cs, o1⟩, o2, o3⟩ := reads_of I hK hs e2 ry ru
    have hl := r.length
    exact index_plain pl.isList (by simpa using p1) o1 p2 o2 (by omega) e3 (by rw [List.size_toArray]; omega) ⟨.int j, H, I.tok _, ⟨_, rfl⟩, h.int hs⟩
  · exact h.elim
theorem mt_rem (hK : K.K = X.K) (hu : X.A.units + 65 < cLine) : MtR X "list.remove" (rM K wpRemove) := by
  intro pins s σ H x xs v us Q I rx rxs ⟨d, ds, t, rd, rds, hs, h⟩
  unfold wpRemove at h
  split at h
  · cases rd
    obtain ⟨vs, rfl, ry⟩ := rds.one_inv
    obtain ⟨u, rfl, ru⟩ := rxs.one
    obtain ⟨zs, as, y, j, e0, e1, e2, e3, h⟩ := h
    obtain ⟨n, ws, en, n1, q1, r1⟩ := hs.lst e0
    rw [n1] at rx
    cases rx
    obtain ⟨z, its, m, r, hl, e⟩ := I.lstM q1
    obtain ⟨⟨bs, p1⟩, p2, p3⟩ := readsAll_of I hK hs e1 r1 r
    obtain ⟨⟨cs, o1⟩, o2, o3⟩ := reads_of I hK hs e2 ry ru
    refine SeqAt.remove_list_data (vs := its.toArray) ⟨_, e, rfl, _, rfl⟩ (by simpa using p1) o1 p2 o2 (by omega) e3 (by rw [List.size_toArray]; omega) ?_
    refine ⟨.non, _, I.lset (t' := s.toks) (its' := its.eraseIdx j) q1 e (by simp) (r.eraseIdx j) ?_, rfl, h.wrL hs en q1 (r1.eraseIdx j) rfl⟩
    have := len_erase ws j
    omega
  · exact h.elim
theorem mt_cnt (hK : K.K = X.K) (hu : X.A.units + 65 < cLine) : MtR X "list.count" (rM K wpCountL) := by
  intro pins s σ H x xs v us Q I rx rxs ⟨d, ds, t, rd, rds, hs, h⟩
  unfold wpCountL at h
  split at h
  · cases rd
    obtain ⟨vs, rfl, ry⟩ := rds.one_inv
    obtain ⟨u, rfl, ru⟩ := rxs.one
    obtain ⟨zs, as, y, e0, e1, e2, h⟩ := h
    obtain ⟨ws, q1, r1⟩ := hs.seq e0
    rw [hK] at q1
    obtain ⟨its, r, pl, hz⟩ := I.list q1
    cases rx
    obtain ⟨⟨bs, p1⟩, p2, p3⟩ := readsAll_of I hK hs e1 r1 r
    obtain ⟨⟨cs, o1⟩, o2, o3⟩ := reads_of I hK hs e2 ry ru
    exact SeqAt.count_list_data pl.isList (by simpa using p1) o1 p2 o2 (by omega) ⟨.int _, H, I.tok _, ⟨_, rfl⟩, h.int hs⟩
  · exact h.elim
theorem mt_cntT (hK : K.K = X.K) (hu : X.A.units + 65 < cLine) : MtR X "tuple.count" (rM K wpCountT) := by
  intro pins s σ H x xs v us Q I rx rxs ⟨d, ds, t, rd, rds, hs, h⟩
  unfold wpCountT at h
  split at h
  · obtain ⟨a, ws, rfl, q1, r1⟩ := rd.tupI
    obtain ⟨vs, rfl, ry⟩ := rds.one_inv
    obtain ⟨u, rfl, ru⟩ := rxs.one
    obtain ⟨as, y, e1, e2, h⟩ := h
    rw [hK] at q1
    obtain ⟨its, r, pl, hz⟩ := I.tuple q1.t
    cases rx
    obtain ⟨⟨bs, p1⟩, p2, p3⟩ := readsAll_of I hK hs e1 r1 r
    obtain ⟨⟨cs, o1⟩, o2, o3⟩ := reads_of I hK hs e2 ry ru
    exact SeqAt.count_tuple_data pl (by simpa using p1) o1 p2 o2 (by omega) ⟨.int _, H, I.tok _, ⟨_, rfl⟩, h.int hs⟩
  · exact h.elim
end
end PL
end

section
set_option Elab.async false
set_option linter.all false
set_option maxRecDepth 100000
namespace PL
open PySem PySem.Spec PyProof.Rows L2

def clT : Cl → String
  | .tuple => "tuple" | .bool => "bool" | .int => "int" | .str => "str" | .list => "list" | .dict => "dict"
theorem cl_non (c : Cl) : kitB "NoneType" (clT c) = some false := by cases c <;> decide +kernel
theorem cl_bool (c : Cl) : kitB "bool" (clT c) = some (c == .bool || c == .int) := by cases c <;> decide +kernel
theorem cl_int (c : Cl) : kitB "int" (clT c) = some (c == .int) := by cases c <;> decide +kernel
theorem cl_str (c : Cl) : kitB "str" (clT c) = some (c == .str) := by cases c <;> decide +kernel
theorem cl_tup (c : Cl) : kitB "tuple" (clT c) = some (c == .tuple) := by cases c <;> decide +kernel
theorem cl_list (c : Cl) : kitB "list" (clT c) = some (c == .list) := by cases c <;> decide +kernel
theorem cl_dict (c : Cl) : kitB "dict" (clT c) = some (c == .dict) := by cases c <;> decide +kernel
theorem isCl_ok {K : Kc} {H : Hp} {s : PL.S} {c : Cl} {d : D} {x : V} {b : Bool} (hs : RepS K H s) (r : RepD K H d x) (e : isCl s c d = some b) : ∃ t, TyX K.K H x t ∧ PySem.W.kitOne K.K t (.type (clT c)) = some b := by
  cases d with
  | non => cases r; cases e; exact ⟨_, .base .non, kit_ty (cl_non c)⟩
  | bl v => cases r; cases e; exact ⟨_, .base (.bl _), kit_ty (cl_bool c)⟩
  | int v => cases r; cases e; exact ⟨_, .base (.int _), kit_ty (cl_int c)⟩
  | str v => cases r; cases e; exact ⟨_, .base (.str _), kit_ty (cl_str c)⟩
  | tup xs =>
    obtain ⟨a, vs, rfl, q, _⟩ := r.tupI
    cases e
    refine ⟨.type "tuple", ?_, kit_ty (cl_tup c)⟩
    rcases q with ⟨o, q, _⟩ | ⟨o, _, _, q, q2, _⟩
    · exact .fTuple q
    · exact .kTuple q q2
  | loc l =>
    cases r
    simp only [isCl] at e
    split at e
    · next xs e0 =>
      cases e
      obtain ⟨n, vs, _, n1, q1, _⟩ := hs.lst e0
      rw [n1]
      exact ⟨_, .base (.lst q1), kit_ty (cl_list c)⟩
    · next xs e0 =>
      cases e
      obtain ⟨n, vs, _, n1, q1, _⟩ := hs.dic e0
      rw [n1]
      exact ⟨_, .base (.dK q1), kit_ty (cl_dict c)⟩
    · cases e

section
variable {X : Cx} {K : Kc}
theorem Vals.at {xs : List V} {us : List Value} (h : Vals xs us) {i : Nat} {u : Value} (e : us[i]? = some u) : ∃ x, xs[i]? = some x ∧ RelV x u := by
  have hl := h.length
  obtain ⟨hi, _⟩ := List.getElem?_eq_some_iff.mp e
  have hx : xs[i]? = some (xs[i]'(by omega)) := List.getElem?_eq_getElem _
  obtain ⟨u', e', r⟩ := h.get hx
  rw [e] at e'; cases e'
  exact ⟨_, hx, r⟩
theorem RepDs.at {H : Hp} {ds : List D} {vs : List V} (h : RepDs K H ds vs) {i : Nat} {v : V} (e : vs[i]? = some v) : ∃ d, ds[i]? = some d ∧ RepD K H d v := by
  have hl := h.length
  obtain ⟨hi, _⟩ := List.getElem?_eq_some_iff.mp e
  have hx : ds[i]? = some (ds[i]'(by omega)) := List.getElem?_eq_getElem _
  obtain ⟨u', e', r⟩ := h.get hx
  rw [e] at e'; cases e'
  exact ⟨_, hx, r⟩
theorem mapM_at {α β : Type} {f : α → Option β} : ∀ {xs : List α} {ys : List β} {i : Nat} {x : α}, xs.mapM f = some ys → xs[i]? = some x → ∃ y, f x = some y ∧ ys[i]? = some y
  | [], _, _, _, _, e => by simp at e
  | a :: xs, ys, 0, x, h, e => by
    obtain ⟨y, r, h1, h2, rfl⟩ := mapM_cons_some h
    simp at e; subst e
    exact ⟨y, h1, rfl⟩
  | a :: xs, ys, i + 1, x, h, e => by
    obtain ⟨y, r, h1, h2, rfl⟩ := mapM_cons_some h
    simpa using mapM_at (i := i) h2 (by simpa using e)
theorem ext_core (hK : K.K = X.K) {pins : List (Addr × Obj)} {s : Shared} {σ : L2.St} {H : Hp} {Q : VK} {t : PL.S} {xs : List D} {ds : List PyData} {m : PyData} {vs : List V} {its : List Value} (I : Inv X pins σ H s) (hs : RepS K H t)
    (rv : Vals vs its) (r1 : RepDs K H xs vs) (hm : xs.mapM (dat t 50) = some ds) (h : ∀ d, d ∈ xs → dat t 50 d = some m → PQ K H Q d t) :
    ∀ (i : Nat) v h' tk bs, its.toArray[i]? = some v → Reads h' v m bs → (∀ b o, s.heap.get? b = some o → h'.get? b = some o) → EP X pins σ Q v { s with heap := h', toks := tk } := fun i v h' tk bs e r hk => by
  have e' : its[i]? = some v := by simpa using e
  obtain ⟨x, hx, ru⟩ := Vals.at rv e'
  obtain ⟨d, hd, rd⟩ := RepDs.at r1 hx
  obtain ⟨a, ha, _⟩ := mapM_at hm hd
  obtain ⟨⟨as, ra⟩, pa, _⟩ := reads_of I hK hs ha rd ru
  have eq : a = m := SeqAt.plain_unique _ _ _ _ _ pa (PyProof.Rows.Reads.keeps hk ra) r
  subst eq
  exact ⟨x, H, I.kept hk, ru, (h d (List.mem_of_getElem? hd) ha).here rd hs⟩
theorem bi_max (hK : K.K = X.K) (hu : X.A.units + 65 < cLine) (hc : X.calm = true) : CallR X (.builtin "max") (rC K wpMax) := by
  intro pins s σ H xs us Q I r ⟨ds, t, rd, hs, h⟩
  unfold wpMax at h
  split at h
  · obtain ⟨v, w, rfl, q1, q2⟩ := rd.two_inv
    cases q1; cases q2
    exact call_max2 hc pins s σ H _ us Q I r ⟨_, _, rfl, h.int hs⟩
  · obtain ⟨v, rfl, q⟩ := rd.one_inv
    obtain ⟨xs, a, as, e, hm, hal, h⟩ := h
    obtain ⟨p, vs, rfl, q1, r1⟩ := items_of hs e q
    rw [Vals.ref1 r]
    obtain ⟨its, rv, q2, _⟩ := seq_of I hK q1
    obtain ⟨⟨bs, p1⟩, p2, p3⟩ := readsAll_of I hK hs hm r1 rv
    have fin := ext_core hK I hs rv r1 hm h
    rcases q2 with q2 | q2
    · exact PySem.W.max_list_data (I.ok.hd hc) q2 (by simpa using p1) hal (by omega) fin
    · exact PySem.W.max_tuple_data (I.ok.hd hc) q2 (by simpa using p1) hal (by omega) fin
  · exact h.elim
theorem bi_min (hK : K.K = X.K) (hu : X.A.units + 65 < cLine) (hc : X.calm = true) : CallR X (.builtin "min") (rC K wpMin) := by
  intro pins s σ H xs us Q I r ⟨ds, t, rd, hs, h⟩
  unfold wpMin at h
  split at h
  · obtain ⟨v, w, rfl, q1, q2⟩ := rd.two_inv
    cases q1; cases q2
    exact call_min2 hc pins s σ H _ us Q I r ⟨_, _, rfl, h.int hs⟩
  · obtain ⟨v, rfl, q⟩ := rd.one_inv
    obtain ⟨xs, a, as, e, hm, hal, h⟩ := h
    obtain ⟨p, vs, rfl, q1, r1⟩ := items_of hs e q
    rw [Vals.ref1 r]
    obtain ⟨its, rv, q2, _⟩ := seq_of I hK q1
    obtain ⟨⟨bs, p1⟩, p2, p3⟩ := readsAll_of I hK hs hm r1 rv
    have fin := ext_core hK I hs rv r1 hm h
    rcases q2 with q2 | q2
    · exact PySem.W.min_list_data (I.ok.hd hc) q2 (by simpa using p1) hal (by omega) fin
    · exact PySem.W.min_tuple_data (I.ok.hd hc) q2 (by simpa using p1) hal (by omega) fin
  · exact h.elim
/-- truth -/
theorem tru_rep {H : Hp} {s : PL.S} {d : D} {x : V} {b : Bool} (hs : RepS K H s) (r : RepD K H d x) (e : tru s d = some b) : TruV K.K x H b := by
  cases d with
  | non => cases r; cases e; rfl
  | bl v => cases r; cases e; rfl
  | int v => cases r; cases e; rfl
  | str v =>
    cases r
    simp only [tru] at e
    split at e
    · cases e
      refine ⟨by rw [lim_eq]; assumption, ?_⟩
      rw [Bool.eq_iff_iff]
      simp
    · cases e
  | tup xs =>
    obtain ⟨a, vs, rfl, q, r1⟩ := r.tupI
    cases e
    refine .inr (.inl ⟨vs, q.t, ?_⟩)
    have := r1.length
    cases xs <;> cases vs <;> simp at this ⊢
  | loc l =>
    cases r
    have e0 : ∀ xs, seqAt s l = some xs → TruV K.K (.ref (K.adr l)) H (!xs.isEmpty) := fun xs e0 => by
      obtain ⟨vs, q, r1⟩ := hs.seq e0
      refine .inl ⟨vs, q, ?_⟩
      have := r1.length
      cases xs <;> cases vs <;> simp at this ⊢
    simp only [tru] at e
    split at e
    · next xs e1 => cases e; exact e0 xs (by unfold seqAt; rw [e1])
    · next xs e1 => cases e; exact e0 xs (by unfold seqAt; rw [e1])
    · next kvs e1 =>
      cases e
      obtain ⟨n, ks, _, n1, q1, r1⟩ := hs.dic e1
      rw [n1]
      refine .inr (.inr ⟨ks, q1, ?_⟩)
      have := r1.length
      cases kvs <;> cases ks <;> simp at this ⊢
    · cases e
end
end PL
end

section
set_option Elab.async false
set_option linter.all false
set_option maxRecDepth 100000
namespace PL
open PySem PySem.Spec PyProof.Rows L2

/-! ## what a text is read as -/
structure Gs where
  /-- the defs, by their numbers -/
  fns : List Str
  /-- names that the module does not bind -/
  free : List Str
def noStar : Expr → Bool
  | .Starred .. => false
  | _ => true
def visB (sc : Scope) (x : Str) : Bool := match sc.names.lookup x with
  | some .local => true
  | some .cell => true
  | some .free => true
  | _ => false
def okName (x : Str) : Bool := !(x == ("__debug__" : Str)) && !(x == ("__classdict__" : Str))
def glB (sc : Scope) (x : Str) : Bool := decide (sc.names.lookup x = some .globalImplicit) && !(x == ("__debug__" : Str)) && !(x == ("__name__" : Str))
/-- a name that may be stored here -/
def locB (sc : Scope) (fn : Str → Bool) (x : Str) : Bool := match sc.names.lookup x with
  | some .local => true
  | some .cell => fn x
  | _ => false
def plainT : Expr → Bool
  | .UnaryOp .Not _ _ => false
  | .BoolOp .. => false
  | .IfExp .. => false
  | .Compare .. => false
  | _ => true
def noSlice : Expr → Bool
  | .Slice .. => false
  | _ => true
def biName : Bi → Str
  | .len => "len" | .abs => "abs" | .int => "int" | .list => "list" | .tuple => "tuple" | .sorted => "sorted" | .sum => "sum" | .all => "all" | .any => "any" | .max => "max" | .min => "min"
  | _ => "?"
def biOk : Bi → Bool
  | .len => true | .abs => true | .int => true | .list => true | .tuple => true | .sorted => true | .sum => true | .all => true | .any => true | .max => true | .min => true
  | _ => false
def mtName : Mt → Str
  | .append => "append" | .extend => "extend" | .popAt => "pop" | .pop => "pop" | .index => "index" | .remove => "remove" | .count => "count" | .get1 => "get" | .get2 => "get"
def keysB : List Str → List (Option Expr) → Bool
  | [], [] => true
  | k :: ks, some (.Constant (.str x) _ _) :: r => decide (k = x) && keysB ks r
  | _, _ => false
/-- the names of a target -/
def tgB (N : List Str) (sc : Scope) (fn : Str → Bool) : List Nat → List Expr → Bool
  | [], [] => true
  | i :: is, .Name x _ :: r => decide (N[i]? = some x) && locB sc fn x && tgB N sc fn is r
  | _, _ => false
def tgC (N : List Str) (sc : Scope) (fn : Str → Bool) (tg : List Nat) : Bool → Expr → Bool
  | false, .Name x p => tgB N sc fn tg [.Name x p]
  | true, .Tuple es _ _ => tgB N sc fn tg es
  | _, _ => false
def ownB (N : List Str) (own : List Nat) (scope : Scope) : Option (List (Str × Nat)) := own.mapM fun i => (N[i]?).map fun x => (x, i)
def fnB (scope : Scope) : Str → Bool := fun x => scope.names.lookup x == some .cell

mutual
def chkE (G : Gs) (N : List Str) : E → Scope → Expr → Bool
  | .var i, sc, .Name x _ => decide (N[i]? = some x) && visB sc x && okName x
  | .own i, sc, .Name x _ => decide (N[i]? = some x) && visB sc x && okName x
  | .mv i, sc, .Name x _ => decide (N[i]? = some x) && visB sc x && okName x
  | .int i, _, .Constant (.int j) _ _ => decide (i = j)
  | .str x, _, .Constant (.str y) _ _ => decide (x = y)
  | .bl x, _, .Constant (.bool y) _ _ => decide (x = y)
  | .non, _, .Constant .none _ _ => true
  | .tup es, sc, .Tuple xs _ _ => decide (es.length ≤ 1000) && xs.all noStar && chkEs G N es sc xs
  | .lst es, sc, .List xs _ => decide (es.length ≤ 1000) && xs.all noStar && chkEs G N es sc xs
  | .dic ks vs, sc, .Dict keys xs _ => decide (ks.length ≤ 15) && decide ks.Nodup && decide (ks.length = vs.length) && keysB ks keys && xs.all noStar && chkEs G N vs sc xs
  | .bin op a b, sc, .BinOp x o y _ => decide (opOf op = o) && chkE G N a sc x && chkE G N b sc y
  | .neg a, sc, .UnaryOp .USub x _ => chkE G N a sc x
  | .not a, sc, .UnaryOp .Not x _ => chkE G N a sc x
  | .and es, sc, .BoolOp .And xs _ => !es.isEmpty && xs.all noStar && chkEs G N es sc xs
  | .or es, sc, .BoolOp .Or xs _ => !es.isEmpty && xs.all noStar && chkEs G N es sc xs
  | .ife c a b, sc, .IfExp z x y _ => chkT G N c sc z && chkE G N a sc x && chkE G N b sc y
  | .cmp op a b, sc, .Compare x [o] [y] _ => decide (cmOf op = o) && !behindInMarks o y && chkE G N a sc x && chkE G N b sc y
  | .chain o1 o2 a b c, sc, .Compare x [p, q] [y, z] _ => decide (cmOf o1 = p) && decide (cmOf o2 = q) && !lastMarks [p, q] [y, z] && chkE G N a sc x && chkE G N b sc y && chkE G N c sc z
  | .isN n a, sc, .Compare x [o] [.Constant .none _ _] _ => decide (o = if n = true then CmpOp.IsNot else CmpOp.Is) && chkE G N a sc x
  | .call f es, sc, .Call (.Name x _) (y :: ys) [] _ => decide (G.fns[f]? = some x) && glB sc x && noStar y && ys.all noStar && chkEs G N es sc (y :: ys)
  | .bi (.isi c) [a], sc, .Call (.Name x _) [y, .Name z _] [] _ => decide (x = ("isinstance" : Str)) && decide (z = Str.ofString (clT c)) && G.free.contains x && G.free.contains z && glB sc x && glB sc z && noStar y && chkE G N a sc y
  | .bi (.listR n) es, sc, .Call (.Name x _) [.Call (.Name z _) ys [] _] [] _ => decide (x = ("list" : Str)) && decide (z = ("range" : Str)) && G.free.contains x && G.free.contains z && glB sc x && glB sc z && ys.all noStar && decide (1 ≤ ys.length) && decide (ys.length ≤ 2) && chkEs G N es sc ys
  | .bi (.tupleR n) es, sc, .Call (.Name x _) [.Call (.Name z _) ys [] _] [] _ => decide (x = ("tuple" : Str)) && decide (z = ("range" : Str)) && G.free.contains x && G.free.contains z && glB sc x && glB sc z && ys.all noStar && decide (1 ≤ ys.length) && decide (ys.length ≤ 2) && chkEs G N es sc ys
  | .bi b es, sc, .Call (.Name x _) (y :: ys) [] _ => biOk b && decide (biName b = x) && G.free.contains x && glB sc x && noStar y && ys.all noStar && chkEs G N es sc (y :: ys)
  | .mt m o es, sc, .Call (.Attribute x name apos) (y :: ys) [] cpos => decide (mtName m = name) && (apos.endLine == cpos.line) && decide ((y :: ys).length < 29) && (match x with | .Call .. => false | _ => true) && noStar y && ys.all noStar && chkE G N o sc x && chkEs G N es sc (y :: ys)
  | .ix a b, sc, .Subscript x y _ => noSlice y && chkE G N a sc x && chkE G N b sc y
  | .sl a lo hi, sc, .Subscript x (.Slice l h none _) _ => chkE G N a sc x && chkO G N lo sc l && chkO G N hi sc h
  | .comp el tg tup it cond own, sc, .ListComp e [⟨t, i, ifs, k⟩] scope _ => decide (k = 0) && (match ownB N own scope with
      | some ow => blkC N sc scope ow
      | none => false) && tg.all own.contains && tgC N (relS scope sc) (fnB scope) tg tup t && chkI G N it sc i && chkC G N cond (relS scope sc) ifs && chkE G N el (relS scope sc) e
  | _, _, _ => false
def chkEs (G : Gs) (N : List Str) : List E → Scope → List Expr → Bool
  | [], _, [] => true
  | e :: es, sc, x :: xs => chkE G N e sc x && chkEs G N es sc xs
  | _, _, _ => false
def chkO (G : Gs) (N : List Str) : Option E → Scope → Option Expr → Bool
  | none, _, none => true
  | some e, sc, some x => chkE G N e sc x
  | _, _, _ => false
def chkC (G : Gs) (N : List Str) : Option E → Scope → List Expr → Bool
  | none, _, [] => true
  | some e, sc, [x] => chkT G N e sc x
  | _, _, _ => false
def chkT (G : Gs) (N : List Str) : E → Scope → Expr → Bool
  | .not a, sc, .UnaryOp .Not x _ => chkT G N a sc x
  | .and es, sc, .BoolOp .And xs _ => !es.isEmpty && chkTs G N es sc xs
  | .or es, sc, .BoolOp .Or xs _ => !es.isEmpty && chkTs G N es sc xs
  | .cmp op a b, sc, .Compare x [o] [y] _ => decide (cmOf op = o) && !behindInMarks o y && chkE G N a sc x && chkE G N b sc y
  | .chain o1 o2 a b c, sc, .Compare x [p, q] [y, z] _ => decide (cmOf o1 = p) && decide (cmOf o2 = q) && !lastMarks [p, q] [y, z] && chkE G N a sc x && chkE G N b sc y && chkE G N c sc z
  | .isN n a, sc, .Compare x [o] [.Constant .none _ _] _ => decide (o = if n = true then CmpOp.IsNot else CmpOp.Is) && chkE G N a sc x
  | .val e, sc, x => plainT x && chkE G N e sc x
  | _, _, _ => false
def chkTs (G : Gs) (N : List Str) : List E → Scope → List Expr → Bool
  | [], _, [] => true
  | e :: es, sc, x :: xs => chkT G N e sc x && chkTs G N es sc xs
  | _, _, _ => false
def chkI (G : Gs) (N : List Str) : E → Scope → Expr → Bool
  | .rng es, sc, .Call (.Name x _) ys [] _ => decide (x = ("range" : Str)) && G.free.contains x && glB sc x && ys.all noStar && decide (1 ≤ ys.length) && decide (ys.length ≤ 3) && chkEs G N es sc ys
  | .val e, sc, x => (match x with | .Set .. => false | _ => true) && chkE G N e sc x
  | .rev a, sc, .Call (.Name x _) [y] [] _ => decide (x = ("reversed" : Str)) && G.free.contains x && glB sc x && noStar y && chkE G N a sc y
  | _, _, _ => false
end
end PL
end

section
set_option Elab.async false
set_option linter.all false
set_option maxRecDepth 100000
set_option maxHeartbeats 1000000
namespace PL
open PySem PySem.Spec PyProof.Rows L2

def spC (K : Kc) (C : Cs) (f : Nat) : Sp := fun vs H Q _ => ∃ ds s, RepDs K H ds vs ∧ RepS K H s ∧ C f ds s (PQ K H Q)
structure Stat (K : Kc) (G : Gs) (C : Cs) (N : List Str) (sc : Scope) (fn : Str → Bool) (X : Cx) : Prop where
  kk : K.K = X.K
  nN : X.N = N
  nd : N.Nodup
  sC : X.env.scope = sc
  fN : X.fn = fn
  kind : sc.kind = .function
  calm : X.calm = true
  xe : X.xe = fun _ _ => False
  un : X.A.units + 65 < cLine
  free : ∀ x ∈ G.free, X.mg x = none
  mono : CsLe C C
  call : ∀ (f : Nat) (x : Str), G.fns[f]? = some x → ∃ (ad : Addr) (fd : FuncData) (ps : List Str) (k : Nat), FnOk X.prog X.w X.K X.mg X.base CX0 k ad fd ps (spC K C f) ∧ Room k X.A ∧ X.mg x = some (.ref ad) ∧ PySem.W.keepIn X.K (.ref ad) = true ∧ Binds X.K fd ps []

def tE (K : Kc) (C : Cs) (e : E) : TE := fun σ H Q => ∃ ρ s, RepE K H ρ σ ∧ RepS K H s ∧ wpE C e ρ s (PQ K H Q)
def tT (K : Kc) (C : Cs) (e : E) : TT := fun σ H Q => ∃ ρ s, RepE K H ρ σ ∧ RepS K H s ∧ wpT C e ρ s fun b s' => ∀ H', Keep K H H' → RepS K H' s' → Q b H'
def tEs (K : Kc) (C : Cs) (es : List E) : TA := fun σ H Q => ∃ ρ s, RepE K H ρ σ ∧ RepS K H s ∧ wpEs C es ρ s fun ds s' => ∀ vs H', Keep K H H' → RepDs K H' ds vs → RepS K H' s' → Q vs H'
def tO (K : Kc) (C : Cs) (e : Option E) : TO := fun σ H Q => ∃ ρ s, RepE K H ρ σ ∧ RepS K H s ∧ wpO C e ρ s fun o s' => ∀ H', Keep K H H' → RepS K H' s' → Q o H'
def tC' (K : Kc) (C : Cs) (e : Option E) : TT := fun σ H Q => ∃ ρ s, RepE K H ρ σ ∧ RepS K H s ∧ wpC C e ρ s fun b s' => ∀ H', Keep K H H' → RepS K H' s' → Q b H'
section
variable {K : Kc} {C : Cs} {ρ : Vs} {σ : L2.St} {H : Hp} {s : PL.S}
theorem tE.mk (hC : CsLe C C) {a : E} {W : Post} {R : VK} (hρ : RepE K H ρ σ) (hs : RepS K H s) (h : wpE C a ρ s W) (f : ∀ d s1 v H1, Keep K H H1 → RepD K H1 d v → RepS K H1 s1 → W d s1 → R v H1) : tE K C a σ H R :=
  ⟨ρ, s, hρ, hs, wpE_mono hC a (fun d s1 w v H1 k r q => f d s1 v H1 k r q w) h⟩
theorem tT.mk (hC : CsLe C C) {a : E} {W : Bool → PL.S → Prop} {R : Bool → Hp → Prop} (hρ : RepE K H ρ σ) (hs : RepS K H s) (h : wpT C a ρ s W) (f : ∀ b s1 H1, Keep K H H1 → RepS K H1 s1 → W b s1 → R b H1) : tT K C a σ H R :=
  ⟨ρ, s, hρ, hs, wpT_mono hC a (fun d s1 w H1 k q => f d s1 H1 k q w) h⟩
theorem tEs.mk (hC : CsLe C C) {a : List E} {W : List D → PL.S → Prop} {R : List V → Hp → Prop} (hρ : RepE K H ρ σ) (hs : RepS K H s) (h : wpEs C a ρ s W) (f : ∀ ds s1 vs H1, Keep K H H1 → RepDs K H1 ds vs → RepS K H1 s1 → W ds s1 → R vs H1) : tEs K C a σ H R :=
  ⟨ρ, s, hρ, hs, wpEs_mono hC a (fun d s1 w v H1 k r q => f d s1 v H1 k r q w) h⟩
theorem tO.mk (hC : CsLe C C) {a : Option E} {W : Option Int → PL.S → Prop} {R : Option Int → Hp → Prop} (hρ : RepE K H ρ σ) (hs : RepS K H s) (h : wpO C a ρ s W) (f : ∀ b s1 H1, Keep K H H1 → RepS K H1 s1 → W b s1 → R b H1) : tO K C a σ H R :=
  ⟨ρ, s, hρ, hs, wpO_mono hC a (fun d s1 w H1 k q => f d s1 H1 k q w) h⟩
theorem tC'.mk (hC : CsLe C C) {a : Option E} {W : Bool → PL.S → Prop} {R : Bool → Hp → Prop} (hρ : RepE K H ρ σ) (hs : RepS K H s) (h : wpC C a ρ s W) (f : ∀ b s1 H1, Keep K H H1 → RepS K H1 s1 → W b s1 → R b H1) : tC' K C a σ H R :=
  ⟨ρ, s, hρ, hs, wpC_mono hC a (fun d s1 w H1 k q => f d s1 H1 k q w) h⟩
theorem PQ.at {Q : VK} {H' : Hp} {d : D} (q : PQ K H Q d s) (k : Keep K H H') : PQ K H' Q d s := fun v H2 k2 r hs => q v H2 (k.trans k2) r hs
end
theorem pe_imp {X : Cx} {e : Expr} {t t' : TE} (h : PE X e t) (f : ∀ σ H Q, t' σ H Q → t σ H Q) : PE X e t' := ⟨fun pins s σ H Q I q => h.run pins s σ H Q I (f σ H Q q)⟩
theorem pt_imp {X : Cx} {e : Expr} {t t' : TT} (h : PT X e t) (f : ∀ σ H Q, t' σ H Q → t σ H Q) : PT X e t' := ⟨fun pins s σ H Q I q => h.run pins s σ H Q I (f σ H Q q)⟩
theorem pw_imp {X : Cx} {e : Expr} {t t' : TT} (h : PW X e t) (f : ∀ σ H Q, t' σ H Q → t σ H Q) : PW X e t' := ⟨fun w pins s σ H Q I q => h.run w pins s σ H Q I (f σ H Q q)⟩
theorem pa_imp {X : Cx} {e : List Expr} {t t' : TA} (h : PA X e t) (f : ∀ σ H Q, t' σ H Q → t σ H Q) : PA X e t' := ⟨fun p pins s σ H Q I q => h.run p pins s σ H Q I (f σ H Q q)⟩

theorem star_cons {e : Expr} {es : List Expr} {env : PySem.Env} (h : noStar e = true) : starEach (e :: es) env = (false, eval e env) :: starEach es env := by
  cases e <;> first | rfl | (simp [noStar] at h)
theorem star_all {env : PySem.Env} {pos : Pos} : ∀ {es : List Expr}, es.all noStar = true → (backTo pos (starEach es env)).any (·.1) = false
  | [], _ => rfl
  | e :: es, h => by
    rw [List.all_cons, Bool.and_eq_true] at h
    rw [star_cons h.1]
    have := star_all (env := env) (pos := pos) h.2
    unfold backTo at this ⊢
    simpa using this
theorem vis_of {sc : Scope} {x : Str} (h : visB sc x = true) : Vis sc x := by
  unfold visB at h
  unfold Vis
  split at h <;> simp_all
theorem okName_of {x : Str} (h : okName x = true) : (x == ("__debug__" : Str)) = false ∧ (x == ("__classdict__" : Str)) = false := by
  unfold okName at h
  simpa using h
theorem gl_of {X : Cx} {sc : Scope} {x : Str} (hs : X.env.scope = sc) (h : glB sc x = true) : Gl X x ∧ (x == ("__debug__" : Str)) = false ∧ x ≠ "__name__" := by
  unfold glB at h
  simp only [Bool.and_eq_true, decide_eq_true_eq, Bool.not_eq_true', beq_eq_false_iff_ne] at h
  refine ⟨?_, by simpa using h.1.2, h.2⟩
  show X.env.scope.names.lookup x = _
  rw [hs]; exact h.1.1

section
variable {X : Cx} {K : Kc} {G : Gs} {C : Cs} {N : List Str} {sc : Scope} {fn : Str → Bool}
theorem free_of (st : Stat K G C N sc fn X) {x : Str} (h : G.free.contains x = true) : X.mg x = none := st.free x (by simpa using h)
/-- a builtin's call -/
theorem pe_bi (st : Stat K G C N sc fn X) {f : Value} {x : Str} {y : Expr} {ys : List Expr} {p pos : Pos} {b : Bi} {es : List E} (hf : (∃ id, f = .builtin id) ∨ ∃ T, f = .type T) (hc : CallR X f (rC K (wpBi b))) (hx : G.free.contains x = true) (hg : glB sc x = true) (hv : bootBuiltins x = some f)
    (h1 : noStar y = true) (h2 : ys.all noStar = true) (ha : PA X (y :: ys) (tEs K C es)) : PE X (.Call (.Name x p) (y :: ys) [] pos) (tE K C (.bi b es)) := by
  obtain ⟨g1, g2, g3⟩ := gl_of st.sC hg
  have imp : ∀ σ H Q, tE K C (.bi b es) σ H Q → tCB (rC K (wpBi b)) (tEs K C es) σ H Q := fun σ H Q ⟨ρ, s, hρ, hs, h⟩ => by
    simp only [wpE] at h
    exact tEs.mk st.mono hρ hs h fun ds s1 vs H1 k r hs1 h1 => ⟨ds, s1, r, hs1, wpBi_mono (fun d s2 q => q.at k) h1⟩
  rcases hf with ⟨id, rfl⟩ | ⟨T, rfl⟩
  · exact pe_imp (pe_callB hc g1 (free_of st hx) hv ha g3 g2 (star_cons h1) (star_all h2)) imp
  · exact pe_imp (pe_callTy hc g1 (free_of st hx) hv ha g3 g2 (star_cons h1) (star_all h2)) imp
theorem few_of {es : List Expr} {env : PySem.Env} {pos : Pos} (h : es.all noStar = true) (hl : es.length < 29) : ((backTo pos (starEach es env)).all (fun x => !x.1) && (backToKw pos (keywordEach [] env)).all (fun x => x.1.isSome)
      && decide (es.length + ([] : List Keyword).length + (if ([] : List Keyword).isEmpty then 0 else 1) < 30)) = true := by
  have h1 := star_all (env := env) (pos := pos) h
  have h2 : (backTo pos (starEach es env)).all (fun x => !x.1) = true := by
    rw [List.all_eq_true]
    rw [List.any_eq_false] at h1
    intro x hx
    simpa using h1 x hx
  rw [h2, Bool.true_and]
  have h3 : (backToKw pos (keywordEach [] env)).all (fun x => x.1.isSome) = true := rfl
  rw [h3, Bool.true_and]
  exact decide_eq_true (by simp; omega)
theorem base_of (o : Expr) (name : Str) (env : PySem.Env) (h : (match o with | .Call .. => false | _ => true) = true) : attributeBase o name env (eval o env) = eval o env := by
  cases o <;> first | rfl | (simp at h)
theorem recv_list {H : Hp} {s : PL.S} {m : Mt} {d : D} {v : V} (hm : m ≠ .get1 ∧ m ≠ .get2 ∧ m ≠ .count) (hs : RepS K H s) (r : RepD K H d v) (h : recvB m d s = true) : tyV K.K "list" v H := by
  have key : ∀ a, d = .loc a → (seqAt s a).isSome = true → tyV K.K "list" v H := fun a e h' => by
    subst e
    cases r
    obtain ⟨xs, e⟩ := Option.isSome_iff_exists.mp h'
    obtain ⟨vs, q, _⟩ := hs.seq e
    exact .inl ⟨rfl, vs, q⟩
  cases d with
  | loc a => cases m <;> first | exact key a rfl h | exact absurd rfl hm.1 | exact absurd rfl hm.2.1 | exact absurd rfl hm.2.2
  | tup _ => cases m <;> first | (simp [recvB] at h; done) | exact absurd rfl hm.2.2
  | _ => cases m <;> simp [recvB] at h
theorem recv_dict {H : Hp} {s : PL.S} {m : Mt} {d : D} {v : V} (hm : m = .get1 ∨ m = .get2) (hs : RepS K H s) (r : RepD K H d v) (h : recvB m d s = true) : tyV K.K "dict" v H := by
  have key : ∀ a kvs, d = .loc a → s a = some (.dic kvs) → tyV K.K "dict" v H := fun a kvs e h' => by
    subst e
    cases r
    obtain ⟨n, ks, _, n1, q, _⟩ := hs.dic h'
    rw [n1]
    exact .inr (.inr (.inl ⟨rfl, .inl ⟨ks, q⟩⟩))
  rcases hm with rfl | rfl
  · cases d <;> simp only [recvB, Bool.false_eq_true] at h
    split at h
    · exact key _ _ rfl (by assumption)
    · cases h
  · cases d <;> simp only [recvB, Bool.false_eq_true] at h
    split at h
    · exact key _ _ rfl (by assumption)
    · cases h
/-- a method's call -/
theorem pe_mt (st : Stat K G C N sc fn X) {m : Mt} {id : String} {T : String} {o : E} {es : List E} {x y : Expr} {ys : List Expr} {name : Str} {apos cpos : Pos} (pa : PlainAttrs T) (slot : Slot T name id) (hty : typeOf (.builtin id) = pure (.type "method_descriptor"))
    (hm : MtR X id (rM K (wpMt m))) (tv : ∀ {d : D} {s : PL.S} {v : V} {H : Hp}, RepS K H s → RepD K H d v → recvB m d s = true → tyV K.K T v H) (h1 : noStar y = true) (h2 : ys.all noStar = true) (hl : (y :: ys).length < 29) (hline : (apos.endLine == cpos.line) = true) (hb : (match x with | .Call .. => false | _ => true) = true)
    (hx : PE X x (tE K C o)) (ha : PA X (y :: ys) (tEs K C es)) : PE X (.Call (.Attribute x name apos) (y :: ys) [] cpos) (tE K C (.mt m o es)) := by
  refine pe_imp (pe_bm pa slot hty hm hx ha (base_of _ _ _ hb) (few_of (by rw [List.all_cons, h1, h2]; rfl) hl) hline (star_cons h1) (star_all h2)) fun σ H Q ⟨ρ, s, hρ, hs, h⟩ => ?_
  simp only [wpE] at h
  refine tE.mk st.mono hρ hs h fun d s1 v H1 k r hs1 h1 => ⟨by rw [← st.kk]; exact tv hs1 r h1.1, ?_⟩
  refine tEs.mk st.mono (hρ.keep k) hs1 h1.2 fun ds s2 vs H2 k2 r2 hs2 h2 => ⟨d, ds, s2, RepD.keep k2 _ _ r, r2, hs2, wpMt_mono (fun d s2 q => q.at (k.trans k2)) h2⟩
/-- a method of a list or of a tuple -/
def tDyn (K : PySem.W.Frag) (r1 r2 : V → List V → Hp → VK → Prop) (to : TE) (t : TA) : TE := fun σ H Q => to σ H fun x H1 => (tyV K "list" x H1 ∧ t σ H1 fun xs H2 => r1 x xs H2 Q) ∨ ((∃ p vs, x = V.ref p ∧ SqX K H1 p vs) ∧ t σ H1 fun xs H2 => r2 x xs H2 Q)
theorem pe_dyn {o e : Expr} {es : List Expr} {to : TE} {t : TA} {name : Str} {apos cpos : Pos} {id1 id2 : String} {r1 r2 : V → List V → Hp → VK → Prop} (slot1 : Slot "list" name id1) (slot2 : Slot "tuple" name id2) (hty1 : typeOf (.builtin id1) = pure (.type "method_descriptor")) (hty2 : typeOf (.builtin id2) = pure (.type "method_descriptor")) (hm1 : MtR X id1 r1) (hm2 : MtR X id2 r2) (ho : PE X o to) (ha : PA X (e :: es) t)
    (hbase : attributeBase o name X.env (eval o X.env) = eval o X.env)
    (hfew : ((backTo cpos (starEach (e :: es) X.env)).all (fun x => !x.1) && (backToKw cpos (keywordEach [] X.env)).all (fun x => x.1.isSome)
      && decide ((e :: es).length + ([] : List Keyword).length + (if ([] : List Keyword).isEmpty then 0 else 1) < 30)) = true)
    (hline : (apos.endLine == cpos.line) = true) (hs : starEach (e :: es) X.env = (false, eval e X.env) :: starEach es X.env) (hplain : (backTo cpos (starEach es X.env)).any (·.1) = false) :
    PE X (.Call (.Attribute o name apos) (e :: es) [] cpos) (tDyn X.K r1 r2 to t) := by
  refine ⟨fun pins s σ H Q I h => ?_⟩
  refine wpAny_Call_method_late hbase hfew hline rfl (thn (ho.run pins s σ H _ I h) fun v s1 ⟨x, H1, I1, rx, q1⟩ => ?_)
  rcases q1 with ⟨ty, q1⟩ | ⟨⟨p, vs, ex, hq⟩, q1⟩
  · obtain ⟨h1, h2⟩ := tyV_is I1 rx ty
    refine ⟨"list", id1, PySem.F.plainAttrs_list, slot1, hty1, h1, h2, ?_⟩
    have hA := ha.run cpos pins s1 σ H1 _ I1 q1
    rw [hs] at hA ⊢
    refine Calls.callWith_builtin (by show (false || (backTo cpos (starEach es X.env)).any (·.1)) = false; rw [hplain] <;> rfl) (Calls.evalArgs_plain ?_)
    exact thn hA fun us s2 ⟨vs, H2, I2, r2', q2⟩ => hm1 pins s2 σ H2 x vs v us Q I2 rx r2' q2
  · subst ex
    cases rx
    have ht : s1.TypeIs (.ref p) "tuple" ∧ ∀ a, (Value.ref p) = .ref a → ∃ ob, s1.heap.get? a = some ob ∧ ob.dict = none := by
      obtain ⟨o, e0, c, d⟩ := hq.obj I1
      exact ⟨⟨o, e0, c⟩, fun a ea => by cases ea; exact ⟨o, e0, d⟩⟩
    refine ⟨"tuple", id2, PySem.F.plainAttrs_tuple, slot2, hty2, ht.1, ht.2, ?_⟩
    have hA := ha.run cpos pins s1 σ H1 _ I1 q1
    rw [hs] at hA ⊢
    refine Calls.callWith_builtin (by show (false || (backTo cpos (starEach es X.env)).any (·.1)) = false; rw [hplain] <;> rfl) (Calls.evalArgs_plain ?_)
    exact thn hA fun us s2 ⟨vs, H2, I2, r2', q2⟩ => hm2 pins s2 σ H2 (.ref p) vs (.ref p) us Q I2 rfl r2' q2
theorem recv_cnt {H : Hp} {s : PL.S} {d : D} {v : V} (hs : RepS K H s) (r : RepD K H d v) (h : recvB .count d s = true) : ((∃ xs, d = .tup xs) ∧ ∃ p vs, v = V.ref p ∧ SqX K.K H p vs) ∨ ((∀ xs, d ≠ .tup xs) ∧ tyV K.K "list" v H) := by
  cases d with
  | loc a =>
    cases r
    obtain ⟨xs, e⟩ := Option.isSome_iff_exists.mp (show (seqAt s a).isSome = true from h)
    obtain ⟨vs, q, _⟩ := hs.seq e
    exact .inr ⟨by simp, .inl ⟨rfl, vs, q⟩⟩
  | tup ds =>
    obtain ⟨a, vs, e, q, _⟩ := r.tupI
    exact .inl ⟨⟨_, rfl⟩, a, vs, e, q⟩
  | _ => simp [recvB] at h
theorem pe_count (st : Stat K G C N sc fn X) {o : E} {es : List E} {x y : Expr} {ys : List Expr} {apos cpos : Pos} (h1 : noStar y = true) (h2 : ys.all noStar = true) (hl : (y :: ys).length < 29) (hline : (apos.endLine == cpos.line) = true) (hb : (match x with | .Call .. => false | _ => true) = true)
    (hx : PE X x (tE K C o)) (ha : PA X (y :: ys) (tEs K C es)) : PE X (.Call (.Attribute x "count" apos) (y :: ys) [] cpos) (tE K C (.mt .count o es)) := by
  refine pe_imp (pe_dyn PySem.F.slot_list_count PySem.F.slot_tuple_count PySem.F.type_list_count PySem.F.type_tuple_count (mt_cnt st.kk st.un) (mt_cntT st.kk st.un) hx ha (base_of _ _ _ hb) (few_of (by rw [List.all_cons, h1, h2]; rfl) hl) hline (star_cons h1) (star_all h2)) fun σ H Q ⟨ρ, s, hρ, hs, h⟩ => ?_
  simp only [wpE] at h
  refine tE.mk st.mono hρ hs h fun d s1 v H1 k r hs1 h1 => ?_
  rcases recv_cnt hs1 r h1.1 with ⟨⟨xs, rfl⟩, p, vs, e, q⟩ | ⟨hn, ty⟩
  · refine .inr ⟨⟨p, vs, e, by rw [← st.kk]; exact q⟩, ?_⟩
    refine tEs.mk st.mono (hρ.keep k) hs1 h1.2 fun ds s2 vs H2 k2 r2 hs2 h2 => ⟨.tup xs, ds, s2, RepD.keep k2 _ _ r, r2, hs2, ?_⟩
    have h3 : wpMt .count (.tup xs) ds s2 (PQ K H2 Q) := wpMt_mono (fun d s2 q => q.at (k.trans k2)) h2
    exact h3
  · refine .inl ⟨by rw [← st.kk]; exact ty, ?_⟩
    refine tEs.mk st.mono (hρ.keep k) hs1 h1.2 fun ds s2 vs H2 k2 r2 hs2 h2 => ⟨d, ds, s2, RepD.keep k2 _ _ r, r2, hs2, ?_⟩
    have h3 : wpMt .count d ds s2 (PQ K H2 Q) := wpMt_mono (fun d s2 q => q.at (k.trans k2)) h2
    cases d <;> first | exact h3 | exact absurd rfl (hn _)
end
end PL
end

section
set_option Elab.async false
set_option linter.all false
set_option maxRecDepth 100000
set_option maxHeartbeats 4000000
namespace PL
open PySem PySem.Spec PyProof.Rows L2

section
variable {X : Cx} {K : Kc} {G : Gs} {C : Cs} {N : List Str} {sc : Scope} {fn : Str → Bool}
theorem RepKV.getD {H : Hp} {kvs : List (D × D)} {ks : List (Key × V)} {k : Key} {d : D} {v : V} (h : RepKV K H kvs ks) (r : RepD K H d v) : RepD K H ((dget kvs (dK k)).getD d) ((valV ks k).getD v) := by
  cases e : dget kvs (dK k) with
  | none => rw [(h.get k).2 e]; exact r
  | some d' =>
    obtain ⟨v', e2, r'⟩ := h.some e
    rw [e2]; exact r'
theorem mt_g1 (hu : X.A.units + 65 < cLine) : MtR X "dict.get" (rM K wpGet1) := by
  intro pins s σ H x xs v us Q I rx rxs ⟨d, ds, t, rd, rds, hs, h⟩
  unfold wpGet1 at h
  split at h
  · cases rd
    obtain ⟨vs, rfl, ry⟩ := rds.one_inv
    obtain ⟨u, rfl, ru⟩ := rxs.one
    obtain ⟨kvs, e0, hk, h⟩ := h
    obtain ⟨n, ks, en, n1, q1, r1⟩ := hs.dic e0
    rw [n1] at rx
    cases rx
    obtain ⟨k, rfl, rfl⟩ := keyD_inv hk ry
    exact d_get1 (by omega) I (DGet.k (k := k) q1) ru fun w' s3 I3 rw' => ⟨_, H, I3, rw', h.here (r1.getD (show RepD K H .non .non from rfl)) hs⟩
  · exact h.elim
theorem mt_g2 (hu : X.A.units + 65 < cLine) : MtR X "dict.get" (rM K wpGet2) := by
  intro pins s σ H x xs v us Q I rx rxs ⟨d, ds, t, rd, rds, hs, h⟩
  unfold wpGet2 at h
  split at h
  · cases rd
    obtain ⟨vs, w, rfl, ry, rz⟩ := rds.two_inv
    obtain ⟨u, u2, rfl, ru, ru2⟩ := rxs.two
    obtain ⟨kvs, e0, hk, h⟩ := h
    obtain ⟨n, ks, en, n1, q1, r1⟩ := hs.dic e0
    rw [n1] at rx
    cases rx
    obtain ⟨k, rfl, rfl⟩ := keyD_inv hk ry
    exact d_get2 (by omega) I (DGet.k (k := k) q1) ru ru2 fun w' s3 I3 rw' => ⟨_, H, I3, rw', h.here (r1.getD rz) hs⟩
  · exact h.elim
theorem sBi (st : Stat K G C N sc fn X) {b : Bi} {x : Str} {y : Expr} {ys : List Expr} {p pos : Pos} {es : List E} (hb : biOk b = true) (hn : biName b = x) (hx : G.free.contains x = true) (hg : glB sc x = true) (h1 : noStar y = true) (h2 : ys.all noStar = true) (ha : PA X (y :: ys) (tEs K C es)) :
    PE X (.Call (.Name x p) (y :: ys) [] pos) (tE K C (.bi b es)) := by
  subst hn
  cases b
  case len => exact pe_bi st (.inl ⟨_, rfl⟩) (bi_len st.kk) hx hg boot_len h1 h2 ha
  case abs => exact pe_bi st (.inl ⟨_, rfl⟩) bi_abs hx hg (by decide +kernel) h1 h2 ha
  case int => exact pe_bi st (.inr ⟨_, rfl⟩) bi_int hx hg (by decide +kernel) h1 h2 ha
  case list => exact pe_bi st (.inr ⟨_, rfl⟩) (bi_list st.kk) hx hg (by decide +kernel) h1 h2 ha
  case tuple => exact pe_bi st (.inr ⟨_, rfl⟩) (bi_tuple st.kk) hx hg (by decide +kernel) h1 h2 ha
  case sorted => exact pe_bi st (.inl ⟨_, rfl⟩) (bi_sorted st.kk st.un) hx hg (by decide +kernel) h1 h2 ha
  case sum => exact pe_bi st (.inl ⟨_, rfl⟩) (bi_sum st.kk st.calm) hx hg (by decide +kernel) h1 h2 ha
  case all => exact pe_bi st (.inl ⟨_, rfl⟩) (bi_all st.kk st.calm) hx hg (by decide +kernel) h1 h2 ha
  case any => exact pe_bi st (.inl ⟨_, rfl⟩) (bi_any st.kk st.calm) hx hg (by decide +kernel) h1 h2 ha
  case max => exact pe_bi st (.inl ⟨_, rfl⟩) (bi_max st.kk st.un st.calm) hx hg (by decide +kernel) h1 h2 ha
  case min => exact pe_bi st (.inl ⟨_, rfl⟩) (bi_min st.kk st.un st.calm) hx hg (by decide +kernel) h1 h2 ha
  all_goals exact absurd hb Bool.false_ne_true
theorem sMt (st : Stat K G C N sc fn X) {m : Mt} {o : E} {es : List E} {x y : Expr} {ys : List Expr} {name : Str} {apos cpos : Pos} (hn : mtName m = name) (h1 : noStar y = true) (h2 : ys.all noStar = true) (hl : (y :: ys).length < 29) (hline : (apos.endLine == cpos.line) = true) (hb : (match x with | .Call .. => false | _ => true) = true)
    (hx : PE X x (tE K C o)) (ha : PA X (y :: ys) (tEs K C es)) : PE X (.Call (.Attribute x name apos) (y :: ys) [] cpos) (tE K C (.mt m o es)) := by
  subst hn
  cases m
  case append => exact pe_mt st PySem.F.plainAttrs_list PySem.F.slot_list_append PySem.F.type_list_append mt_app (recv_list ⟨nofun, nofun, nofun⟩) h1 h2 hl hline hb hx ha
  case extend => exact pe_mt st PySem.F.plainAttrs_list PySem.F.slot_list_extend PySem.F.type_list_extend mt_ext (recv_list ⟨nofun, nofun, nofun⟩) h1 h2 hl hline hb hx ha
  case popAt => exact pe_mt st PySem.F.plainAttrs_list PySem.F.slot_list_pop PySem.F.type_list_pop mt_pop1 (recv_list ⟨nofun, nofun, nofun⟩) h1 h2 hl hline hb hx ha
  case pop => exact pe_mt st PySem.F.plainAttrs_list PySem.F.slot_list_pop PySem.F.type_list_pop mt_pop0 (recv_list ⟨nofun, nofun, nofun⟩) h1 h2 hl hline hb hx ha
  case index => exact pe_mt st PySem.F.plainAttrs_list PySem.F.slot_list_index PySem.F.type_list_index (mt_ind st.kk st.un) (recv_list ⟨nofun, nofun, nofun⟩) h1 h2 hl hline hb hx ha
  case remove => exact pe_mt st PySem.F.plainAttrs_list PySem.F.slot_list_remove PySem.F.type_list_remove (mt_rem st.kk st.un) (recv_list ⟨nofun, nofun, nofun⟩) h1 h2 hl hline hb hx ha
  case count => exact pe_count st h1 h2 hl hline hb hx ha
  case get1 => exact pe_mt st PySem.F.plainAttrs_dict PySem.F.slot_dict_get PySem.F.type_dict_get (mt_g1 st.un) (recv_dict (.inl rfl)) h1 h2 hl hline hb hx ha
  case get2 => exact pe_mt st PySem.F.plainAttrs_dict PySem.F.slot_dict_get PySem.F.type_dict_get (mt_g2 st.un) (recv_dict (.inr rfl)) h1 h2 hl hline hb hx ha
end
end PL
end

section
set_option Elab.async false
set_option linter.all false
set_option maxRecDepth 100000
set_option maxHeartbeats 1000000
namespace PL
open PySem PySem.Spec PyProof.Rows L2

/-! ## slots -/
section
variable {K : Kc} {H : Hp} {ρ : Vs} {σ : L2.St}
theorem RepE.set {i : Nat} {d : D} {v : V} (h : RepE K H ρ σ) (r : RepD K H d v) : RepE K H (ρ.set i (some d)) (σ.set i (some v)) := by
  refine ⟨by rw [List.length_set, List.length_set]; exact h.1, fun j e q => ?_⟩
  by_cases hj : i = j
  · subst hj
    by_cases hi : i < ρ.length
    · rw [List.getElem?_set_self hi] at q
      cases q
      exact ⟨v, List.getElem?_set_self (by rw [← h.1]; exact hi), r⟩
    · rw [List.getElem?_eq_none (by rw [List.length_set]; omega)] at q
      cases q
  · rw [List.getElem?_set_ne hj] at q
    obtain ⟨w, e1, r1⟩ := h.2 j e q
    exact ⟨w, by rw [List.getElem?_set_ne hj]; exact e1, r1⟩
theorem wipeV_length (ρ : Vs) : ∀ vs : List Nat, (wipeV ρ vs).length = ρ.length
  | [] => rfl
  | v :: vs => by unfold wipeV; rw [List.length_set, wipeV_length ρ vs]
theorem wipeV_some {i : Nat} {d : D} : ∀ {vs : List Nat}, (wipeV ρ vs)[i]? = some (some d) → ρ[i]? = some (some d) ∧ i ∉ vs
  | [], h => ⟨h, by simp⟩
  | v :: vs, h => by
    unfold wipeV at h
    by_cases hi : v = i
    · subst hi
      by_cases hv : v < (wipeV ρ vs).length
      · rw [List.getElem?_set_self hv] at h; cases h
      · rw [List.getElem?_eq_none (by rw [List.length_set]; omega)] at h; cases h
    · rw [List.getElem?_set_ne hi] at h
      obtain ⟨h1, h2⟩ := wipeV_some h
      exact ⟨h1, by simp only [List.mem_cons, not_or]; exact ⟨fun e => hi e.symm, h2⟩⟩
theorem RepE.wipe {vs : List Nat} (h : RepE K H ρ σ) : RepE K H (wipeV ρ vs) (L2.wipe σ vs) := by
  refine ⟨by rw [wipeV_length, L2.wipe_length]; exact h.1, fun i d e => ?_⟩
  obtain ⟨e1, hn⟩ := wipeV_some e
  obtain ⟨v, e2, r⟩ := h.2 i d e1
  exact ⟨v, by rw [L2.wipe_out hn]; exact e2, r⟩
theorem wipe_at (σ : L2.St) (j : Nat) : ∀ vs : List Nat, (L2.wipe σ vs)[j]? = if j ∈ vs ∧ j < σ.length then some none else σ[j]?
  | [] => by simp [L2.wipe]
  | v :: vs => by
    unfold L2.wipe
    by_cases hj : v = j
    · subst hj
      by_cases hl : v < σ.length
      · rw [List.getElem?_set_self (by rw [L2.wipe_length]; exact hl), if_pos ⟨by simp, hl⟩]
      · rw [if_neg (fun z => hl z.2), List.getElem?_eq_none (by rw [List.length_set, L2.wipe_length]; omega), List.getElem?_eq_none (by omega)]
    · rw [List.getElem?_set_ne hj, wipe_at σ j vs]
      have e : (j ∈ v :: vs) = (j ∈ vs) := by simp [Ne.symm hj]
      simp only [e]
theorem wipe_same {σ σ' : L2.St} {vs : List Nat} (hl : σ.length = σ'.length) (h : ∀ j, j ∉ vs → σ[j]? = σ'[j]?) : L2.wipe σ vs = L2.wipe σ' vs := by
  apply List.ext_getElem?
  intro j
  rw [wipe_at, wipe_at, ← hl]
  by_cases hj : j ∈ vs
  · by_cases h2 : j < σ.length
    · rw [if_pos ⟨hj, h2⟩, if_pos ⟨hj, h2⟩]
    · rw [if_neg (fun z => h2 z.2), if_neg (fun z => h2 z.2), List.getElem?_eq_none (by omega), List.getElem?_eq_none (by omega)]
  · rw [if_neg (fun z => hj z.1), if_neg (fun z => hj z.1), h j hj]
theorem wipe_wipe (σ : L2.St) (vs : List Nat) : L2.wipe (L2.wipe σ vs) vs = L2.wipe σ vs := wipe_same (L2.wipe_length _ _) fun j hj => L2.wipe_out hj
theorem wipe_set {σ : L2.St} {vs : List Nat} {i : Nat} {x : Option V} (hi : i ∈ vs) : L2.wipe (σ.set i x) vs = L2.wipe σ vs :=
  wipe_same (by rw [List.length_set]) fun j hj => List.getElem?_set_ne (fun e => hj (by rw [← e]; exact hi))
end
end PL
end

section
set_option Elab.async false
set_option linter.all false
set_option maxRecDepth 100000
set_option maxHeartbeats 1000000
namespace PL
open PySem PySem.Spec PyProof.Rows L2 RT RZ

/-! ## what is walked -/
/-- an iterator that gives the items xs, as long as chk stays true -/
structure ItIs (K : Kc) (H0 : Hp) (J : It) (xs : List D) (chk : PL.S → Prop) : Prop where
  go : ∀ (i : Nat) (d : D) (H : Hp) (s : PL.S), Keep K H0 H → RepS K H s → chk s → xs[i]? = some d → J.go i H ∧ ∀ x H', J.yld i H x H' → RepD K H' d x ∧ Keep K H H' ∧ RepS K H' s
  stop : ∀ (H : Hp) (s : PL.S), Keep K H0 H → RepS K H s → chk s → J.stop xs.length H
def tI (K : Kc) (C : Cs) (it : E) : TI := fun σ H R => ∃ ρ s, RepE K H ρ σ ∧ RepS K H s ∧ wpI C it ρ s fun chk xs s1 => ∀ J H1, Keep K H H1 → RepS K H1 s1 → ItIs K H1 J xs chk → R J H1
section
variable {K : Kc} {H0 : Hp}
theorem it_list {a : Nat} {xs : List D} {k : PySem.W.Frag} (hk : K.K = k) : ItIs K H0 (Itl k (K.adr a)) xs (fun s => seqAt s a = some xs) := by
  subst hk
  refine ⟨fun i d H s kp hs hc e => ?_, fun H s kp hs hc => ?_⟩
  · obtain ⟨vs, q, r⟩ := hs.seq hc
    obtain ⟨v, ev, rv⟩ := r.get e
    refine ⟨⟨vs, v, q, ev⟩, fun x H' ⟨e1, f⟩ => ?_⟩
    subst e1
    have := f vs q
    rw [ev] at this; cases this
    exact ⟨rv, Keep.refl, hs⟩
  · obtain ⟨vs, q, r⟩ := hs.seq hc
    exact ⟨vs, q, by rw [r.length]; exact Nat.le_refl _⟩
theorem it_tup {a : Addr} {xs : List D} {vs : List V} {k : PySem.W.Frag} (hk : K.K = k) (q : SqX K.K H0 a vs) (r : RepDs K H0 xs vs) : ItIs K H0 (Itt k a) xs (fun _ => True) := by
  subst hk
  refine ⟨fun i d H s kp hs hc e => ?_, fun H s kp hs hc => ?_⟩
  · obtain ⟨v, ev, rv⟩ := (RepDs.keep kp _ _ r).get e
    refine ⟨⟨vs, v, (kp _ _ q).t, ev⟩, fun x H' ⟨e1, f⟩ => ?_⟩
    subst e1
    have := f vs (kp _ _ q).t
    rw [ev] at this; cases this
    exact ⟨rv, Keep.refl, hs⟩
  · exact ⟨vs, (kp _ _ q).t, by rw [r.length]; exact Nat.le_refl _⟩
theorem it_str {x : Str} : ItIs K H0 (Its x) (x.cps.toList.map fun c => .str ⟨#[c]⟩) (fun _ => True) := by
  refine ⟨fun i d H s kp hs hc e => ?_, fun H s kp hs hc => ?_⟩
  · rw [List.getElem?_map] at e
    obtain ⟨c, ec, rfl⟩ := Option.map_eq_some_iff.mp e
    have ec' : x.cps[i]? = some c := by simpa using ec
    refine ⟨(Array.getElem?_eq_some_iff.mp ec').1, fun y H' ⟨e1, c', e2, e3⟩ => ?_⟩
    subst e1
    rw [ec'] at e2; cases e2
    exact ⟨e3, Keep.refl, hs⟩
  · show x.cps.size ≤ _
    simp
theorem it_rng {lo : Int} {n : Nat} : ItIs K H0 (Itr lo n) (rangeL lo n 1) (fun _ => True) := by
  refine ⟨fun i d H s kp hs hc e => ?_, fun H s kp hs hc => ?_⟩
  · unfold rangeL at e
    rw [List.getElem?_map] at e
    obtain ⟨c, ec, rfl⟩ := Option.map_eq_some_iff.mp e
    obtain ⟨h1, h2⟩ := List.getElem?_eq_some_iff.mp ec
    simp only [List.length_range] at h1
    rw [List.getElem_range] at h2
    subst h2
    refine ⟨h1, fun y H' ⟨e1, e2⟩ => ?_⟩
    subst e1 e2
    exact ⟨by rw [Int.mul_one]; rfl, Keep.refl, hs⟩
  · show n ≤ _
    simp [rangeL]
theorem it_rngC {lo c : Int} {n : Nat} : ItIs K H0 (Itc lo c n) (rangeL lo n c) (fun _ => True) := by
  refine ⟨fun i d H s kp hs hc e => ?_, fun H s kp hs hc => ?_⟩
  · unfold rangeL at e
    rw [List.getElem?_map] at e
    obtain ⟨k, ec, rfl⟩ := Option.map_eq_some_iff.mp e
    obtain ⟨h1, h2⟩ := List.getElem?_eq_some_iff.mp ec
    simp only [List.length_range] at h1
    rw [List.getElem_range] at h2
    subst h2
    refine ⟨h1, fun y H' ⟨e1, e2⟩ => ?_⟩
    subst e1 e2
    exact ⟨rfl, Keep.refl, hs⟩
  · show n ≤ _
    simp [rangeL]
end
section
variable {X : Cx} {K : Kc} {G : Gs} {C : Cs} {N : List Str} {sc : Scope} {fn : Str → Bool}
theorem pi_any (st : Stat K G C N sc fn X) {tg e : Expr} {a : E} (he : PE X e (tE K C a)) : PI X tg e (tI K C (.val a)) := by
  refine ⟨fun pins s σ H R I ⟨ρ, t, hρ, hs, h⟩ => ?_⟩
  simp only [wpI] at h
  refine thn (he.run pins s σ H (fun x H1 => ∃ d t1, RepD K H1 d x ∧ RepS K H1 t1 ∧ Keep K H H1 ∧ wpIter d t1 fun chk xs s1 => ∀ J H1, Keep K H H1 → RepS K H1 s1 → ItIs K H1 J xs chk → R J H1) I
    (tE.mk st.mono hρ hs h fun d s1 v H1 k r hs1 h1 => ⟨d, s1, r, hs1, k, h1⟩)) fun v s1 ⟨x, H1, I1, r1, d, t1, rd, hs1, k, h1⟩ => ?_
  unfold wpIter at h1
  split at h1
  · obtain ⟨p, vs, rfl, q, rr⟩ := rd.tupI
    cases r1
    obtain ⟨its, rv, pp, hz⟩ := I1.tuple (by rw [← st.kk]; exact q.t)
    refine wpAny_pyIter_tuple (show s1.heap.IsTuple p its.toArray from pp) (pi_one (tk := s1.toks) I1 _ (turn_tuple p _) ⟨_, Heap.get?_push_size _ rfl, rfl, rfl⟩ ?_)
    exact h1 _ H1 k hs1 (it_tup st.kk q rr)
  · next l =>
    cases rd
    obtain ⟨xs, e, h1⟩ := h1
    obtain ⟨vs, q, rr⟩ := hs1.seq e
    cases r1
    obtain ⟨its, rv, pp, hz⟩ := I1.list (by rw [← st.kk]; exact q)
    refine wpAny_pyIter_list pp.isList (pi_one (tk := s1.toks) I1 _ (turn_list (K.adr l) _) ⟨_, Heap.get?_push_size _ rfl, rfl, rfl⟩ ?_)
    exact h1 _ H1 k hs1 (it_list st.kk)
  · next x =>
    cases rd
    obtain ⟨t, rfl⟩ := r1
    cases ha : x.cps.all (· < 128)
    · exact wpAny_pyIter_wide ha (pi_one (tk := s1.toks) I1 _ (turn_str _ x t "str_iterator" (.inr rfl)) ⟨_, Heap.get?_push_size _ rfl, rfl, rfl⟩ (h1 _ H1 k hs1 it_str))
    · exact wpAny_pyIter_ascii ha (pi_one (tk := s1.toks) I1 _ (turn_str _ x t "str_ascii_iterator" (.inl rfl)) ⟨_, Heap.get?_push_size _ rfl, rfl, rfl⟩ (h1 _ H1 k hs1 it_str))
  · exact h1.elim
theorem pi_imp {tg e : Expr} {t t' : TI} (h : PI X tg e t) (f : ∀ σ H R, t' σ H R → t σ H R) : PI X tg e t' := ⟨fun pins s σ H R I q => h.run pins s σ H R I (f σ H R q)⟩
theorem star_one {x : Expr} {env : PySem.Env} (h : noStar x = true) : starEach [x] env = [(false, eval x env)] := star_cons h
theorem wpEs_len {C : Cs} (hC : CsLe C C) : ∀ {es : List E} {ρ : Vs} {s : PL.S} {Q : List D → PL.S → Prop}, wpEs C es ρ s Q → wpEs C es ρ s fun ds s' => ds.length = es.length ∧ Q ds s'
  | [], _, _, _, h => by simp only [wpEs] at h ⊢; exact ⟨rfl, h⟩
  | e :: es, ρ, s, Q, h => by
    simp only [wpEs] at h ⊢
    refine wpE_mono hC e (fun d s1 h1 => ?_) h
    refine wpEs_mono hC es (fun ds s2 h2 => ?_) (wpEs_len hC h1)
    exact ⟨by simp [h2.1], h2.2⟩
theorem chkEs_len {G : Gs} {N : List Str} {sc : Scope} : ∀ {es : List E} {xs : List Expr}, chkEs G N es sc xs = true → es.length = xs.length
  | [], [], _ => rfl
  | e :: es, x :: xs, h => by
    simp only [chkEs, Bool.and_eq_true] at h
    simp [chkEs_len h.2]
  | [], _ :: _, h => by simp [chkEs] at h
  | _ :: _, [], h => by simp [chkEs] at h
theorem RgC.of {a b c : Int} (h : -(2 ^ 61) ≤ a ∧ a < 2 ^ 61 ∧ -(2 ^ 61) ≤ b ∧ b < 2 ^ 61 ∧ c ≠ 0 ∧ c.natAbs < 2 ^ 30) : RgC a b c (if 0 < c then (b - a + c - 1) / c else (a - b - c - 1) / (-c)).toNat := by
  obtain ⟨h1, h2, h3, h4, h5, h6⟩ := h
  have q : ∀ (x c : Int), 0 < c → 0 < x → (x + c - 1) / c = (x - 1) / c + 1 ∧ 0 ≤ (x - 1) / c ∧ (x - 1) / c ≤ x - 1 := fun x c hc hx => by
    have e : x + c - 1 = (x - 1) + c * 1 := by omega
    refine ⟨by rw [e, Int.add_mul_ediv_left _ _ (by omega)], Int.ediv_nonneg (by omega) (by omega), ?_⟩
    exact Int.ediv_le_self _ (by omega)
  have q0 : ∀ (x c : Int), 0 < c → x ≤ 0 → (x + c - 1) / c ≤ 0 := fun x c hc hx => by
    have : (x + c - 1) / c < 1 := Int.ediv_lt_of_lt_mul hc (by omega)
    omega
  have m : ∀ (x c : Int), 0 < c → 0 < x → (x - 1) / c * c ≤ x - 1 := fun x c hc hx => Int.ediv_mul_le _ (by omega)
  refine ⟨h5, by omega, ?_, ?_⟩
  · have hn : 0 ≤ Builtin.Range.rangeSize a b c ∧ Builtin.Range.rangeSize a b c ≤ 2 ^ 62 := by
      unfold Builtin.Range.rangeSize
      split
      · split
        · obtain ⟨e1, e2, e3⟩ := q (b - a) c (by omega) (by omega)
          omega
        · omega
      · split
        · obtain ⟨e1, e2, e3⟩ := q (a - b) (-c) (by omega) (by omega)
          omega
        · omega
    unfold Builtin.Range.small
    generalize Builtin.Range.rangeSize a b c = n at hn
    simp only [Builtin.Range.rangeFitsLong, Bool.and_eq_true, Bool.or_eq_true, decide_eq_true_eq, beq_iff_eq]
    refine ⟨⟨⟨⟨⟨by omega, by omega⟩, by omega, by omega⟩, by omega, by omega⟩, by omega, by omega⟩, .inr ?_⟩
    split
    · simp only [Bool.and_eq_true, decide_eq_true_eq]; omega
    · simp only [Bool.and_eq_true, decide_eq_true_eq]; omega
  · unfold Builtin.Range.rangeSize
    by_cases hc : 0 < c
    · rw [if_pos hc, if_pos hc]
      by_cases hx : a < b
      · obtain ⟨e1, e2, _⟩ := q (b - a) c hc (by omega)
        rw [if_pos hx, e1]; omega
      · have := q0 (b - a) c hc (by omega)
        rw [if_neg hx]; omega
    · rw [if_neg hc, if_neg (by omega : ¬ c > 0)]
      have e : a - b - c - 1 = (a - b) + (-c) - 1 := by omega
      rw [e]
      by_cases hx : a > b
      · obtain ⟨e1, e2, _⟩ := q (a - b) (-c) (by omega) (by omega)
        rw [if_pos hx, e1]; omega
      · have := q0 (a - b) (-c) (by omega) (by omega)
        rw [if_neg hx]; omega
/-- range -/
theorem pi_rng (st : Stat K G C N sc fn X) {tg : Expr} {ys : List Expr} {es : List E} {p pos : Pos} (hx : G.free.contains ("range" : Str) = true) (hg : glB sc "range" = true) (h1 : ys.all noStar = true) (h2 : 1 ≤ ys.length) (h3 : ys.length ≤ 3) (hl : es.length = ys.length) (ha : PA X ys (tEs K C es)) :
    PI X tg (.Call (.Name "range" p) ys [] pos) (tI K C (.rng es)) := by
  obtain ⟨g1, g2, g3⟩ := gl_of st.sC hg
  have free := free_of st hx
  have core : ∀ {σ : L2.St} {H : Hp} {R : It → Hp → Prop} {T : List V → Hp → Prop}, tI K C (.rng es) σ H R → (∀ ds vs H1 r, ds.length = es.length → rngOf ds = some r → RepDs K H1 ds vs → (∀ J, ItIs K H1 J (rangeL r.1 r.2.1 r.2.2) (fun _ => True) → R J H1) → T vs H1) → tEs K C es σ H T := fun {σ H R T} ⟨ρ, s, hρ, hs, h⟩ f => by
    simp only [wpI] at h
    refine tEs.mk st.mono hρ hs (wpEs_len st.mono h) fun ds s1 vs H1 k r hs1 ⟨hl, h1⟩ => ?_
    split at h1
    · next r0 e0 => exact f ds vs H1 r0 hl e0 r fun J hJ => h1 J H1 k hs1 hJ
    · exact h1.elim
  have key : ∀ {ds : List D} {r : Int × Nat × Int}, rngOf ds = some r → (∃ b, ds = [.int b] ∧ (-(2 ^ 62) ≤ b ∧ b < 2 ^ 62) ∧ r = (0, b.toNat, 1)) ∨ (∃ a b, ds = [.int a, .int b] ∧ (-(2 ^ 62) ≤ a ∧ a < 2 ^ 62 ∧ -(2 ^ 62) ≤ b ∧ b < 2 ^ 62) ∧ r = (a, (b - a).toNat, 1)) ∨
      (∃ a b c, ds = [.int a, .int b, .int c] ∧ (-(2 ^ 61) ≤ a ∧ a < 2 ^ 61 ∧ -(2 ^ 61) ≤ b ∧ b < 2 ^ 61 ∧ c ≠ 0 ∧ c.natAbs < 2 ^ 30) ∧ r = (a, (if 0 < c then (b - a + c - 1) / c else (a - b - c - 1) / (-c)).toNat, c)) := fun {ds r} e0 => by
    unfold rngOf at e0
    split at e0
    · split at e0
      · next hb => cases e0; exact .inl ⟨_, rfl, hb, rfl⟩
      · cases e0
    · split at e0
      · next hb => cases e0; exact .inr (.inl ⟨_, _, rfl, hb, rfl⟩)
      · cases e0
    · split at e0
      · next hb => cases e0; exact .inr (.inr ⟨_, _, _, rfl, hb, rfl⟩)
      · cases e0
    · cases e0
  cases ys with
  | nil => exact absurd h2 (by simp)
  | cons y1 ys =>
    rw [List.all_cons, Bool.and_eq_true] at h1
    cases ys with
    | nil =>
      refine pi_imp (pi_range1 g1 free ha (star_one h1.1)) fun σ H R q => core q fun ds vs H1 r hd e0 rd f => ?_
      rw [hl] at hd
      rcases key e0 with ⟨b, rfl, hb, rfl⟩ | ⟨a, b, rfl, hb, rfl⟩ | ⟨a, b, c, rfl, hb, rfl⟩
      · obtain ⟨v, rfl, rv⟩ := rd.one_inv
        cases rv
        exact ⟨b, rfl, hb.1, hb.2, f _ it_rng⟩
      · simp at hd
      · simp at hd
    | cons y2 ys =>
      obtain ⟨h11, h12⟩ := h1
      rw [List.all_cons, Bool.and_eq_true] at h12
      cases ys with
      | nil =>
        refine pi_imp (pi_range2 g1 free ha (by rw [star_cons h11, star_one h12.1]) (star_one h12.1)) fun σ H R q => core q fun ds vs H1 r hd e0 rd f => ?_
        rw [hl] at hd
        rcases key e0 with ⟨b, rfl, hb, rfl⟩ | ⟨a, b, rfl, hb, rfl⟩ | ⟨a, b, c, rfl, hb, rfl⟩
        · simp at hd
        · obtain ⟨v, w, rfl, rv, rw'⟩ := rd.two_inv
          cases rv; cases rw'
          exact ⟨a, b, rfl, hb, f _ it_rng⟩
        · simp at hd
      | cons y3 ys =>
        cases ys with
        | cons y4 ys => simp at h3
        | nil =>
          obtain ⟨h12, h13⟩ := h12
          rw [List.all_cons, Bool.and_eq_true] at h13
          refine pi_imp (pi_range3 g1 free ha (star_cons h11) (star_all (es := [y2, y3]) (by simp [h12, h13.1]))) fun σ H R q => core q fun ds vs H1 r hd e0 rd f => ?_
          rw [hl] at hd
          rcases key e0 with ⟨b, rfl, hb, rfl⟩ | ⟨a, b, rfl, hb, rfl⟩ | ⟨a, b, c, rfl, hb, rfl⟩
          · simp at hd
          · simp at hd
          · simp only [RepDs] at rd
            obtain ⟨v, r, rfl, rv, v2, r2, rfl, rv2, v3, r3, rfl, rv3, rfl⟩ := rd
            cases rv; cases rv2; cases rv3
            exact ⟨a, b, c, _, rfl, RgC.of hb, f _ it_rngC⟩
theorem RepDs.getR {K : Kc} {H : Hp} {ds : List D} {vs : List V} {i : Nat} {d : D} (h : RepDs K H ds vs) (e : ds.reverse[i]? = some d) : ∃ v, vs[ds.length - 1 - i]? = some v ∧ RepD K H d v ∧ i < ds.length := by
  have hi : i < ds.length := by have := (List.getElem?_eq_some_iff.mp e).1; simpa using this
  rw [List.getElem?_reverse hi] at e
  obtain ⟨v, e1, r⟩ := h.get e
  exact ⟨v, e1, r, hi⟩
theorem it_revL {K : Kc} {H0 : Hp} {a : Nat} {xs : List D} {k : PySem.W.Frag} (hk : K.K = k) : ItIs K H0 (Itv k (K.adr a) xs.length) xs.reverse (fun s => itemsOf s (.loc a) = some xs) := by
  subst hk
  refine ⟨fun i d H s kp hs hc e => ?_, fun H s kp hs hc => ?_⟩
  · obtain ⟨vs, q, r⟩ := hs.seq (l := a) (xs := xs) (by simpa only [itemsOf] using hc)
    obtain ⟨v, ev, rv, hi⟩ := r.getR e
    refine ⟨⟨hi, vs, v, q, ev⟩, fun x H' ⟨e1, f⟩ => ?_⟩
    subst e1
    have := f vs q
    rw [ev] at this; cases this
    exact ⟨rv, Keep.refl, hs⟩
  · show xs.length ≤ xs.reverse.length
    simp
theorem it_revT {K : Kc} {H0 : Hp} {a : Addr} {xs : List D} {vs : List V} {k : PySem.W.Frag} {ck : PL.S → Prop} (hk : K.K = k) (q : SqX K.K H0 a vs) (r : RepDs K H0 xs vs) : ItIs K H0 (ItvT k a xs.length) xs.reverse ck := by
  subst hk
  refine ⟨fun i d H s kp hs hc e => ?_, fun H s kp hs hc => ?_⟩
  · obtain ⟨v, ev, rv, hi⟩ := (RepDs.keep kp _ _ r).getR e
    refine ⟨⟨hi, vs, v, (kp _ _ q).t, ev⟩, fun x H' ⟨e1, f⟩ => ?_⟩
    subst e1
    have := f vs (kp _ _ q).t
    rw [ev] at this; cases this
    exact ⟨rv, Keep.refl, hs⟩
  · show xs.length ≤ xs.reverse.length
    simp
/-- reversed(x) -/
theorem pi_rev (st : Stat K G C N sc fn X) {tg y : Expr} {a : E} {x : Str} {p pos : Pos} (hx : x = "reversed") (h1 : G.free.contains x = true) (hg : glB sc x = true) (hn : noStar y = true) (ha : PE X y (tE K C a)) : PI X tg (.Call (.Name x p) [y] [] pos) (tI K C (.rev a)) := by
  subst hx
  obtain ⟨g1, g2, g3⟩ := gl_of st.sC hg
  refine pi_imp (pi_revA g1 (free_of st h1) ha (star_cons hn)) fun σ H R ⟨ρ, s, hρ, hs, h⟩ => ?_
  simp only [wpI] at h
  refine tE.mk st.mono hρ hs h fun d s1 v H1 k1 r1 hs1 h1 => ?_
  split at h1
  rotate_left
  · exact h1.elim
  next xs e0 =>
  cases d with
  | tup ds =>
    simp only [itemsOf, Option.some.injEq] at e0
    subst e0
    obtain ⟨p1, vs1, rfl, q1, rr1⟩ := r1.tupI
    refine ⟨p1, vs1, rfl, .inr ⟨by rw [← st.kk]; exact q1.t, h1 _ H1 k1 hs1 ?_⟩⟩
    rw [← rr1.length]
    exact it_revT st.kk q1 rr1
  | loc l =>
    cases r1
    obtain ⟨vs, q, rr⟩ := hs1.seq (l := l) (xs := xs) (by simpa only [itemsOf] using e0)
    refine ⟨_, vs, rfl, .inl ⟨by rw [← st.kk]; exact q, h1 _ H1 k1 hs1 ?_⟩⟩
    rw [← rr.length]
    exact it_revL st.kk
  | _ => simp [itemsOf] at e0
/-- range(..) as an argument -/
theorem prg_of (st : Stat K G C N sc fn X) {ys : List Expr} {es : List E} {p pos : Pos} (hx : G.free.contains ("range" : Str) = true) (hg : glB sc "range" = true) (h1 : ys.all noStar = true) (h2 : 1 ≤ ys.length) (h3 : ys.length ≤ 2) (hl : es.length = ys.length) (ha : ∀ (i : Nat) (e : E) (y : Expr), es[i]? = some e → ys[i]? = some y → PE X y (tE K C e)) :
    ∃ t, PRg X (.Call (.Name "range" p) ys [] pos) t ∧ ∀ σ H (Q : Int → Int → Hp → Prop), (∃ ρ s, RepE K H ρ σ ∧ RepS K H s ∧ wpEs C es ρ s fun xs s1 => ∃ r, rngOf xs = some r ∧ r.2.2 = 1 ∧ r.2.1 ≤ lim ∧ ∀ H', Keep K H H' → RepS K H' s1 → RgOk r.1 (r.1 + r.2.1) → ∀ b, r.2.1 = (b - r.1).toNat → -(2 ^ 62) ≤ b ∧ b < 2 ^ 62 → -(2 ^ 62) ≤ r.1 ∧ r.1 < 2 ^ 62 → Q r.1 b H') → t σ H Q := by
  obtain ⟨g1, g2, g3⟩ := gl_of st.sC hg
  have free := free_of st hx
  match ys, es, hl, h2, h3, h1, ha with
  | [y], [e], _, _, _, h1, ha =>
    rw [List.all_cons, Bool.and_eq_true] at h1
    have he := ha 0 e y rfl rfl
    refine ⟨_, prg_1 g1 free he (star_cons h1.1), fun σ H Q ⟨ρ, s, hρ, hs, h⟩ => ?_⟩
    simp only [wpEs] at h
    refine tE.mk st.mono hρ hs h fun d s1 v H1 k1 r1 hs1 ⟨r, e0, _, hlm, q⟩ => ?_
    unfold rngOf at e0
    split at e0
    · next b hq =>
      cases hq
      split at e0
      · next hb =>
        cases e0
        cases r1
        exact ⟨b, rfl, q H1 k1 hs1 ⟨by omega, by omega, by simp only; omega, by simp only [lim] at *; omega, by simp only [lim] at *; omega⟩ b (by simp) hb (by omega)⟩
      · cases e0
    · next hq => cases hq
    · next hq => cases hq
    · cases e0
  | [y, y2], [e, e2], _, _, _, h1, ha =>
    rw [List.all_cons, Bool.and_eq_true, List.all_cons, Bool.and_eq_true] at h1
    have he := ha 0 e y rfl rfl
    have he2 := ha 1 e2 y2 rfl rfl
    refine ⟨_, prg_2 g1 free he he2 (star_cons h1.1) (star_cons h1.2.1) (star_all (es := [y2]) (by rw [List.all_cons, h1.2.1]; rfl)), fun σ H Q ⟨ρ, s, hρ, hs, h⟩ => ?_⟩
    simp only [wpEs] at h
    refine tE.mk st.mono hρ hs h fun d s1 v H1 k1 r1 hs1 q1 => tE.mk st.mono (hρ.keep k1) hs1 q1 fun d2 s2 v2 H2 k2 r2 hs2 ⟨r, e0, _, hlm, q⟩ => ?_
    unfold rngOf at e0
    split at e0
    · next hq => cases hq
    · next a b hq =>
      cases hq
      split at e0
      · next hb =>
        cases e0
        have r1' := RepD.keep k2 _ _ r1
        cases r1'; cases r2
        exact ⟨a, b, rfl, rfl, q H2 (k1.trans k2) hs2 ⟨by omega, by omega, by simp only; simp only [lim] at *; omega, by simp only [lim] at *; omega, by simp only [lim] at *; omega⟩ b rfl ⟨by omega, by omega⟩ ⟨by omega, by omega⟩⟩
      · cases e0
    · next hq => cases hq
    · cases e0
end
end PL
end

section
set_option Elab.async false
set_option linter.all false
set_option maxRecDepth 100000
set_option maxHeartbeats 4000000
namespace PL
open PySem PySem.Spec PyProof.Rows L2

/-! ## helpers of the expressions' soundness -/
section
variable {X : Cx} {K : Kc} {G : Gs} {C : Cs} {N : List Str} {sc : Scope} {fn : Str → Bool}
theorem getD_some {ρ : Vs} {i : Nat} {d : D} (h : ρ.getD i none = some d) : ρ[i]? = some (some d) := by
  rw [List.getD_eq_getElem?_getD] at h
  cases e : ρ[i]? with
  | none => rw [e] at h; cases h
  | some o => rw [e] at h; exact congrArg some h
theorem e_var (st : Stat K G C N sc fn X) {i : Nat} {x : Str} {p : Pos} (h1 : N[i]? = some x) (h2 : visB sc x = true) (h3 : okName x = true) : PE X (.Name x p) (tE K C (.var i)) := by
  obtain ⟨n1, n2⟩ := okName_of h3
  refine pe_imp (pe_var (i := i) (by rw [st.nN]; exact h1) (by rw [st.sC]; exact vis_of h2) n1 n2) fun σ H Q ⟨ρ, s, hρ, hs, h⟩ => ?_
  simp only [wpE] at h
  split at h
  · next d e =>
    obtain ⟨v, e1, r⟩ := hρ.2 i d (getD_some e)
    exact ⟨v, e1, h.here r hs⟩
  · exact h.elim
theorem e_int {i : Int} {k} {p : Pos} : PE X (.Constant (.int i) k p) (tE K C (.int i)) := pe_imp pe_int fun σ H Q ⟨ρ, s, hρ, hs, h⟩ => by
  simp only [wpE] at h
  exact h.int hs
theorem e_str {i : Str} {k} {p : Pos} : PE X (.Constant (.str i) k p) (tE K C (.str i)) := pe_imp pe_str fun σ H Q ⟨ρ, s, hρ, hs, h⟩ => by
  simp only [wpE] at h
  exact h.str hs
theorem e_bl {i : Bool} {k} {p : Pos} : PE X (.Constant (.bool i) k p) (tE K C (.bl i)) := pe_imp pe_bl fun σ H Q ⟨ρ, s, hρ, hs, h⟩ => by
  simp only [wpE] at h
  exact h.bl hs
theorem e_non {k} {p : Pos} : PE X (.Constant .none k p) (tE K C .non) := pe_imp pe_non fun σ H Q ⟨ρ, s, hρ, hs, h⟩ => by
  simp only [wpE] at h
  exact h.non hs
theorem e_tup (st : Stat K G C N sc fn X) {es : List E} {xs : List Expr} {k} {p : Pos} (hl : es.length ≤ 1000) (ha : PA X xs (tEs K C es)) : PE X (.Tuple xs k p) (tE K C (.tup es)) :=
  pe_imp (pe_tupX ha) fun σ H Q ⟨ρ, s, hρ, hs, h⟩ => by
    simp only [wpE] at h
    refine tEs.mk st.mono hρ hs (wpEs_len st.mono h) fun ds s1 vs H1 k1 r hs1 ⟨h0, h1⟩ => ⟨?_, fun p us hp => ?_⟩
    · rw [lim_eq, ← r.length]; show _ ≤ 16777216; omega
    · exact (PQ.at h1 k1).newT hs1 r hp
theorem e_lst (st : Stat K G C N sc fn X) {es : List E} {xs : List Expr} {p : Pos} (hl : es.length ≤ 1000) (ha : PA X xs (tEs K C es)) : PE X (.List xs p) (tE K C (.lst es)) :=
  pe_imp (pe_lst ha) fun σ H Q ⟨ρ, s, hρ, hs, h⟩ => by
    simp only [wpE] at h
    refine tEs.mk st.mono hρ hs (wpEs_len st.mono h) fun ds s1 vs H1 k1 r hs1 ⟨h0, h1⟩ => ⟨?_, fun p hp => ?_⟩
    · rw [lim_eq, ← r.length]; show _ ≤ 16777216; omega
    · exact PQ.newL (newO_mono (fun d s2 q => PQ.at q k1) h1) hs1 r hp
theorem e_bin (st : Stat K G C N sc fn X) {op : Op} {a b : E} {x y : Expr} {p : Pos} (ha : PE X x (tE K C a)) (hb : PE X y (tE K C b)) : PE X (.BinOp x (opOf op) y p) (tE K C (.bin op a b)) :=
  pe_imp (pe_op (bin_ok st.kk st.un op) ha hb) fun σ H Q ⟨ρ, s, hρ, hs, h⟩ => by
    simp only [wpE] at h
    refine tE.mk st.mono hρ hs h fun d s1 v H1 k r hs1 h1 => tE.mk st.mono (hρ.keep k) hs1 h1 fun e s2 w H2 k2 r2 hs2 h2 => ?_
    exact ⟨d, e, s2, RepD.keep k2 _ _ r, r2, hs2, wpBin_mono (fun d s3 q => q.at (k.trans k2)) h2⟩
theorem e_cmp (st : Stat K G C N sc fn X) {op : Cm} {a b : E} {x y : Expr} {p : Pos} (hm : behindInMarks (cmOf op) y = false) (ha : PE X x (tE K C a)) (hb : PE X y (tE K C b)) : PE X (.Compare x [cmOf op] [y] p) (tE K C (.cmp op a b)) :=
  pe_imp (pe_cmpR (cm_ok st.kk st.un op) ha hb hm) fun σ H Q ⟨ρ, s, hρ, hs, h⟩ => by
    simp only [wpE] at h
    refine tE.mk st.mono hρ hs h fun d s1 v H1 k r hs1 h1 => tE.mk st.mono (hρ.keep k) hs1 h1 fun e s2 w H2 k2 r2 hs2 h2 => ?_
    exact ⟨d, e, s2, RepD.keep k2 _ _ r, r2, hs2, wpCm_mono (fun d s3 q => q.at (k.trans k2)) h2⟩
theorem t_cmp (st : Stat K G C N sc fn X) {op : Cm} {a b : E} {x y : Expr} {p : Pos} (hm : behindInMarks (cmOf op) y = false) (ha : PE X x (tE K C a)) (hb : PE X y (tE K C b)) : PT X (.Compare x [cmOf op] [y] p) (tT K C (.cmp op a b)) :=
  pt_imp (pt_cmpR (cm_ok st.kk st.un op) ha hb hm) fun σ H Q ⟨ρ, s, hρ, hs, h⟩ => by
    simp only [wpT] at h
    refine tE.mk st.mono hρ hs h fun d s1 v H1 k r hs1 h1 => tE.mk st.mono (hρ.keep k) hs1 h1 fun e s2 w H2 k2 r2 hs2 h2 => ?_
    refine ⟨d, e, s2, RepD.keep k2 _ _ r, r2, hs2, wpCm_mono (fun d s3 q v H3 k3 r3 hs3 => ?_) h2⟩
    split at q
    · cases r3; exact ⟨_, rfl, q H3 ((k.trans k2).trans k3) hs3⟩
    · exact q.elim
theorem chain_imp (st : Stat K G C N sc fn X) {o1 o2 : Cm} {a b c : E} {σ : L2.St} {H : Hp} {Q : VK} {ρ : Vs} {s : PL.S} {W : Post} (hρ : RepE K H ρ σ) (hs : RepS K H s) (hW : ∀ d s1, W d s1 → PQ K H Q d s1)
    (h : wpE C a ρ s fun x s1 => wpE C b ρ s1 fun y s2 => wpCm o1 x y s2 fun t s3 => match t with
    | .bl true => wpE C c ρ s3 fun z s4 => wpCm o2 y z s4 W
    | .bl false => W (.bl false) s3
    | _ => False) : tChain (rV K (wpCm o1)) (rV K (wpCm o2)) (tE K C a) (tE K C b) (tE K C c) σ H Q := by
  refine tE.mk st.mono hρ hs h fun d s1 v H1 k r hs1 h1 => tE.mk st.mono (hρ.keep k) hs1 h1 fun e s2 w H2 k2 r2 hs2 h2 => ?_
  refine ⟨d, e, s2, RepD.keep k2 _ _ r, r2, hs2, wpCm_mono (fun d s3 q v H3 k3 r3 hs3 => ?_) h2⟩
  have kk := (k.trans k2).trans k3
  split at q
  · cases r3
    refine ⟨true, rfl, ?_⟩
    rw [if_pos rfl]
    refine tE.mk st.mono (hρ.keep kk) hs3 q fun f s4 u H4 k4 r4 hs4 h4 => ?_
    exact ⟨e, f, s4, RepD.keep (k3.trans k4) _ _ r2, r4, hs4, wpCm_mono (fun d s5 q => (hW _ _ q).at (kk.trans k4)) h4⟩
  · cases r3
    refine ⟨false, rfl, ?_⟩
    rw [if_neg (by simp)]
    exact ((hW _ _ q).at kk).bl hs3
  · exact q.elim
theorem e_chain (st : Stat K G C N sc fn X) {o1 o2 : Cm} {a b c : E} {x y z : Expr} {p : Pos} (hm : lastMarks [cmOf o1, cmOf o2] [y, z] = false) (ha : PE X x (tE K C a)) (hb : PE X y (tE K C b)) (hc : PE X z (tE K C c)) : PE X (.Compare x [cmOf o1, cmOf o2] [y, z] p) (tE K C (.chain o1 o2 a b c)) :=
  pe_imp (pe_chain (cm_ok st.kk st.un o1) (cm_ok st.kk st.un o2) ha hb hc hm) fun σ H Q ⟨ρ, s, hρ, hs, h⟩ => by
    simp only [wpE] at h
    exact chain_imp st hρ hs (fun _ _ q => q) h
theorem t_chain (st : Stat K G C N sc fn X) {o1 o2 : Cm} {a b c : E} {x y z : Expr} {p : Pos} (hm : lastMarks [cmOf o1, cmOf o2] [y, z] = false) (ha : PE X x (tE K C a)) (hb : PE X y (tE K C b)) (hc : PE X z (tE K C c)) : PT X (.Compare x [cmOf o1, cmOf o2] [y, z] p) (tT K C (.chain o1 o2 a b c)) :=
  pt_imp (pt_chain (cm_ok st.kk st.un o1) (cm_ok st.kk st.un o2) ha hb hc hm) fun σ H Q ⟨ρ, s, hρ, hs, h⟩ => by
    simp only [wpT] at h
    refine chain_imp st (W := fun t s5 => match t with | .bl b => ∀ H', Keep K H H' → RepS K H' s5 → Q b H' | _ => False) hρ hs (fun d s1 q v H' k r hs' => ?_) h
    split at q
    · cases r; exact ⟨_, rfl, q H' k hs'⟩
    · exact q.elim
def isNonD : D → Bool
  | .non => true
  | _ => false
theorem non_iff {H : Hp} {d : D} {v : V} (r : RepD K H d v) : decide (v = .non) = isNonD d := by
  cases d with
  | tup xs => obtain ⟨a, vs, rfl, _⟩ := r.tupI; rfl
  | _ => cases r; rfl
theorem isn_eq (n : Bool) (d : D) : (match d with | .non => !n | _ => n) = (if n = true then !isNonD d else isNonD d) := by
  cases n <;> cases d <;> rfl
theorem e_isN (st : Stat K G C N sc fn X) {n : Bool} {a : E} {x : Expr} {p p2 : Pos} {k} (ha : PE X x (tE K C a)) : PE X (.Compare x [if n = true then CmpOp.IsNot else CmpOp.Is] [.Constant .none k p2] p) (tE K C (.isN n a)) := by
  have key : ∀ (σ : L2.St) (H : Hp) (Q : VK), tE K C (.isN n a) σ H Q → tE K C a σ H fun x H1 => Q (.bl (if n = true then !decide (x = .non) else decide (x = .non))) H1 := fun σ H Q ⟨ρ, s, hρ, hs, h⟩ => by
    simp only [wpE] at h
    refine tE.mk st.mono hρ hs h fun d s1 v H1 k r hs1 h1 => ?_
    rw [non_iff r, ← isn_eq]
    exact (PQ.at h1 k).bl hs1
  cases n
  · exact pe_imp (pe_cmp (pc_isN ha) (nobehind _ (by decide) (by decide))) key
  · exact pe_imp (pe_cmp (pc_notN ha) (nobehind _ (by decide) (by decide))) key
theorem t_isN (st : Stat K G C N sc fn X) {n : Bool} {a : E} {x : Expr} {p p2 : Pos} {k} (ha : PE X x (tE K C a)) : PT X (.Compare x [if n = true then CmpOp.IsNot else CmpOp.Is] [.Constant .none k p2] p) (tT K C (.isN n a)) := by
  have key : ∀ (σ : L2.St) (H : Hp) (Q : Bool → Hp → Prop), tT K C (.isN n a) σ H Q → tE K C a σ H fun x H1 => ∃ c, V.bl (if n = true then !decide (x = .non) else decide (x = .non)) = .bl c ∧ Q c H1 := fun σ H Q ⟨ρ, s, hρ, hs, h⟩ => by
    simp only [wpT] at h
    refine tE.mk st.mono hρ hs h fun d s1 v H1 k r hs1 h1 => ⟨_, rfl, ?_⟩
    rw [non_iff r, ← isn_eq]
    exact h1 H1 k hs1
  cases n
  · exact pt_imp (pt_cmp (pc_isN ha) (nobehind _ (by decide) (by decide))) key
  · exact pt_imp (pt_cmp (pc_notN ha) (nobehind _ (by decide) (by decide))) key
theorem e_neg (st : Stat K G C N sc fn X) {a : E} {x : Expr} {p : Pos} (ha : PE X x (tE K C a)) : PE X (.UnaryOp .USub x p) (tE K C (.neg a)) :=
  pe_imp (pe_un un_neg ha) fun σ H Q ⟨ρ, s, hρ, hs, h⟩ => by
    simp only [wpE] at h
    refine tE.mk st.mono hρ hs h fun d s1 v H1 k r hs1 h1 => ?_
    split at h1
    · cases r; exact ⟨_, rfl, (PQ.at h1 k).int hs1⟩
    · exact h1.elim
theorem e_not (st : Stat K G C N sc fn X) {a : E} {x : Expr} {p : Pos} (ha : PE X x (tE K C a)) : PE X (.UnaryOp .Not x p) (tE K C (.not a)) :=
  pe_imp (pe_notT ha) fun σ H Q ⟨ρ, s, hρ, hs, h⟩ => by
    simp only [wpE] at h
    refine tE.mk st.mono hρ hs h fun d s1 v H1 k r hs1 h1 => ?_
    split at h1
    · next b e => exact ⟨b, by rw [← st.kk]; exact tru_rep hs1 r e, (PQ.at h1 k).bl hs1⟩
    · exact h1.elim
theorem t_not (st : Stat K G C N sc fn X) {a : E} {x : Expr} {p : Pos} (ha : PT X x (tT K C a)) : PT X (.UnaryOp .Not x p) (tT K C (.not a)) :=
  pt_imp (pt_not ha) fun σ H Q ⟨ρ, s, hρ, hs, h⟩ => by
    simp only [wpT] at h
    exact tT.mk st.mono hρ hs h fun b s1 H1 k hs1 h1 => h1 H1 k hs1
theorem e_ife (st : Stat K G C N sc fn X) {c a b : E} {z x y : Expr} {p : Pos} (hc : PT X z (tT K C c)) (ha : PE X x (tE K C a)) (hb : PE X y (tE K C b)) : PE X (.IfExp z x y p) (tE K C (.ife c a b)) :=
  pe_imp (pe_ifExp hc ha hb) fun σ H Q ⟨ρ, s, hρ, hs, h⟩ => by
    simp only [wpE] at h
    refine tT.mk st.mono hρ hs h fun b s1 H1 k hs1 h1 => ?_
    cases b
    · rw [if_neg (by simp)] at h1 ⊢
      exact tE.mk st.mono (hρ.keep k) hs1 h1 fun d s2 v H2 k2 r hs2 h2 => (PQ.at h2 (k.trans k2)).here r hs2
    · rw [if_pos rfl] at h1 ⊢
      exact tE.mk st.mono (hρ.keep k) hs1 h1 fun d s2 v H2 k2 r hs2 h2 => (PQ.at h2 (k.trans k2)).here r hs2
theorem e_call (st : Stat K G C N sc fn X) {f : Nat} {es : List E} {x : Str} {y : Expr} {ys : List Expr} {p pos : Pos} (hf : G.fns[f]? = some x) (hg : glB sc x = true) (h1 : noStar y = true) (h2 : ys.all noStar = true) (ha : PA X (y :: ys) (tEs K C es)) :
    PE X (.Call (.Name x p) (y :: ys) [] pos) (tE K C (.call f es)) := by
  obtain ⟨g1, g2, g3⟩ := gl_of st.sC hg
  obtain ⟨ad, fd, ps, k, F, hr, hm, hk, hb⟩ := st.call f x hf
  refine pe_imp (pe_call (E := fun _ _ _ => False) F hr g1 hm hk hb .nil (fun pins σ H s e s' I q => by exact q.elim) ha g2 (star_cons h1) (star_all h2)) fun σ H Q ⟨ρ, s, hρ, hs, h⟩ => ?_
  simp only [wpE] at h
  refine tEs.mk st.mono hρ hs h fun ds s1 vs H1 k r hs1 h1 => ?_
  refine ⟨ds, s1, by rw [List.append_nil]; exact r, hs1, st.mono _ _ _ _ _ (fun d s2 q => PQ.at q k) h1⟩
theorem e_ix (st : Stat K G C N sc fn X) {a b : E} {x y : Expr} {p : Pos} (hn : noSlice y = true) (ha : PE X x (tE K C a)) (hb : PE X y (tE K C b)) : PE X (.Subscript x y p) (tE K C (.ix a b)) := by
  refine pe_imp (pe_ix (ix_ok st.kk st.un) ha hb (fun o i => ?_)) fun σ H Q ⟨ρ, s, hρ, hs, h⟩ => ?_
  · cases y <;> first | rfl | (simp [noSlice] at hn)
  · simp only [wpE] at h
    refine tE.mk st.mono hρ hs h fun d s1 v H1 k r hs1 h1 => tE.mk st.mono (hρ.keep k) hs1 h1 fun e s2 w H2 k2 r2 hs2 h2 => ?_
    exact ⟨d, e, s2, RepD.keep k2 _ _ r, r2, hs2, wpIx_mono (fun d s3 q => q.at (k.trans k2)) h2⟩
theorem o_none {sc : Scope} : PO X none (tO K C none) := by
  refine ⟨fun pins s σ H Q I ⟨ρ, t, hρ, hs, h⟩ => po_none.run pins s σ H Q I ?_⟩
  simp only [wpO] at h
  exact h H Keep.refl hs
theorem o_some (st : Stat K G C N sc fn X) {a : E} {x : Expr} (ha : PE X x (tE K C a)) : PO X (some x) (tO K C (some a)) := by
  refine ⟨fun pins s σ H Q I ⟨ρ, t, hρ, hs, h⟩ => (po_some ha).run pins s σ H Q I ?_⟩
  simp only [wpO] at h
  refine tE.mk st.mono hρ hs h fun d s1 v H1 k r hs1 h1 => ?_
  split at h1
  · cases r; exact ⟨_, rfl, h1 H1 k hs1⟩
  · exact h1.elim
theorem e_sl (st : Stat K G C N sc fn X) {a : E} {lo hi : Option E} {x : Expr} {l h : Option Expr} {p p2 : Pos} (ha : PE X x (tE K C a)) (hl : PO X l (tO K C lo)) (hh : PO X h (tO K C hi)) : PE X (.Subscript x (.Slice l h none p2) p) (tE K C (.sl a lo hi)) :=
  pe_imp (pe_slice (sl_ok st.kk) ha hl hh) fun σ H Q ⟨ρ, s, hρ, hs, h⟩ => by
    simp only [wpE] at h
    refine tE.mk st.mono hρ hs h fun d s1 v H1 k r hs1 h1 => tO.mk st.mono (hρ.keep k) hs1 h1 fun l s2 H2 k2 hs2 h2 => tO.mk st.mono (hρ.keep (k.trans k2)) hs2 h2 fun u s3 H3 k3 hs3 h3 => ?_
    exact ⟨d, s3, RepD.keep (k2.trans k3) _ _ r, hs3, wpSl_mono (fun d s4 q => q.at ((k.trans k2).trans k3)) h3⟩
theorem t_val (st : Stat K G C N sc fn X) {a : E} {x : Expr} (hp : plainT x = true) (ha : PE X x (tE K C a)) : PT X x (tT K C (.val a)) := by
  refine pt_imp (pt_truth ha fun whole => ?_) fun σ H Q ⟨ρ, s, hρ, hs, h⟩ => ?_
  · cases x <;> first | rfl | (simp [plainT] at hp) | skip
    · next op e p => cases op <;> first | rfl | (simp [plainT] at hp)
  · simp only [wpT] at h
    refine tE.mk st.mono hρ hs h fun d s1 v H1 k r hs1 h1 => ?_
    split at h1
    · next b e => exact ⟨b, by rw [← st.kk]; exact tru_rep hs1 r e, h1 H1 k hs1⟩
    · exact h1.elim
/-- and, or: the readings of the lists -/
def tAn (K : Kc) (C : Cs) (es : List E) : TE := fun σ H Q => ∃ ρ s, RepE K H ρ σ ∧ RepS K H s ∧ wpAnd C es ρ s (PQ K H Q)
def tOrr (K : Kc) (C : Cs) (es : List E) : TE := fun σ H Q => ∃ ρ s, RepE K H ρ σ ∧ RepS K H s ∧ wpOr C es ρ s (PQ K H Q)
def tAnT (K : Kc) (C : Cs) (es : List E) : TT := fun σ H Q => ∃ ρ s, RepE K H ρ σ ∧ RepS K H s ∧ wpAndT C es ρ s fun b s' => ∀ H', Keep K H H' → RepS K H' s' → Q b H'
def tOrrT (K : Kc) (C : Cs) (es : List E) : TT := fun σ H Q => ∃ ρ s, RepE K H ρ σ ∧ RepS K H s ∧ wpOrT C es ρ s fun b s' => ∀ H', Keep K H H' → RepS K H' s' → Q b H'
theorem e_an1 {a : E} {x : Expr} {p : Pos} {op} (ha : PE X x (tE K C a)) : PE X (.BoolOp op [x] p) (tAn K C [a]) := pe_imp (pe_one ha) fun σ H Q ⟨ρ, s, hρ, hs, h⟩ => by
  simp only [wpAnd] at h
  exact ⟨ρ, s, hρ, hs, h⟩
theorem e_or1 {a : E} {x : Expr} {p : Pos} {op} (ha : PE X x (tE K C a)) : PE X (.BoolOp op [x] p) (tOrr K C [a]) := pe_imp (pe_one ha) fun σ H Q ⟨ρ, s, hρ, hs, h⟩ => by
  simp only [wpOr] at h
  exact ⟨ρ, s, hρ, hs, h⟩
theorem e_an2 (st : Stat K G C N sc fn X) {a b : E} {es : List E} {x y : Expr} {ys : List Expr} {p : Pos} (ha : PE X x (tE K C a)) (hb : PE X (.BoolOp .And (y :: ys) p) (tAn K C (b :: es))) : PE X (.BoolOp .And (x :: y :: ys) p) (tAn K C (a :: b :: es)) :=
  pe_imp (pe_and ha hb) fun σ H Q ⟨ρ, s, hρ, hs, h⟩ => by
    simp only [wpAnd] at h
    refine tE.mk st.mono hρ hs h fun d s1 v H1 k r hs1 h1 => ?_
    split at h1
    · cases r
      refine ⟨true, rfl, ?_⟩
      rw [if_pos rfl]
      exact ⟨ρ, s1, hρ.keep k, hs1, wpAnd_mono st.mono (b :: es) (fun d s2 q => PQ.at q k) h1⟩
    · cases r
      refine ⟨false, rfl, ?_⟩
      rw [if_neg (by simp)]
      exact (PQ.at h1 k).bl hs1
    · exact h1.elim
theorem e_or2 (st : Stat K G C N sc fn X) {a b : E} {es : List E} {x y : Expr} {ys : List Expr} {p : Pos} (ha : PE X x (tE K C a)) (hb : PE X (.BoolOp .Or (y :: ys) p) (tOrr K C (b :: es))) : PE X (.BoolOp .Or (x :: y :: ys) p) (tOrr K C (a :: b :: es)) :=
  pe_imp (pe_or ha hb) fun σ H Q ⟨ρ, s, hρ, hs, h⟩ => by
    simp only [wpOr] at h
    refine tE.mk st.mono hρ hs h fun d s1 v H1 k r hs1 h1 => ?_
    split at h1
    · cases r
      refine ⟨true, rfl, ?_⟩
      rw [if_pos rfl]
      exact (PQ.at h1 k).bl hs1
    · cases r
      refine ⟨false, rfl, ?_⟩
      rw [if_neg (by simp)]
      exact ⟨ρ, s1, hρ.keep k, hs1, wpOr_mono st.mono (b :: es) (fun d s2 q => PQ.at q k) h1⟩
    · exact h1.elim
theorem w_an1 {a : E} {x : Expr} {p : Pos} (ha : PT X x (tT K C a)) : PW X (.BoolOp .And [x] p) (tAnT K C [a]) := pw_imp (pw_and1 ha) fun σ H Q ⟨ρ, s, hρ, hs, h⟩ => by
  simp only [wpAndT] at h
  exact ⟨ρ, s, hρ, hs, h⟩
theorem w_or1 {a : E} {x : Expr} {p : Pos} (ha : PT X x (tT K C a)) : PW X (.BoolOp .Or [x] p) (tOrrT K C [a]) := pw_imp (pw_or1 ha) fun σ H Q ⟨ρ, s, hρ, hs, h⟩ => by
  simp only [wpOrT] at h
  exact ⟨ρ, s, hρ, hs, h⟩
theorem w_an2 (st : Stat K G C N sc fn X) {a b : E} {es : List E} {x y : Expr} {ys : List Expr} {p : Pos} (ha : PT X x (tT K C a)) (hb : PW X (.BoolOp .And (y :: ys) p) (tAnT K C (b :: es))) : PW X (.BoolOp .And (x :: y :: ys) p) (tAnT K C (a :: b :: es)) :=
  pw_imp (pw_and ha hb) fun σ H Q ⟨ρ, s, hρ, hs, h⟩ => by
    simp only [wpAndT] at h
    refine tT.mk st.mono hρ hs h fun c s1 H1 k hs1 h1 => ?_
    cases c
    · rw [if_neg (by simp)] at h1 ⊢
      exact h1 H1 k hs1
    · rw [if_pos rfl] at h1 ⊢
      exact ⟨ρ, s1, hρ.keep k, hs1, wpAndT_mono st.mono (b :: es) (fun d s2 q H2 k2 hs2 => q H2 (k.trans k2) hs2) h1⟩
theorem w_or2 (st : Stat K G C N sc fn X) {a b : E} {es : List E} {x y : Expr} {ys : List Expr} {p : Pos} (ha : PT X x (tT K C a)) (hb : PW X (.BoolOp .Or (y :: ys) p) (tOrrT K C (b :: es))) : PW X (.BoolOp .Or (x :: y :: ys) p) (tOrrT K C (a :: b :: es)) :=
  pw_imp (pw_or ha hb) fun σ H Q ⟨ρ, s, hρ, hs, h⟩ => by
    simp only [wpOrT] at h
    refine tT.mk st.mono hρ hs h fun c s1 H1 k hs1 h1 => ?_
    cases c
    · rw [if_neg (by simp)] at h1 ⊢
      exact ⟨ρ, s1, hρ.keep k, hs1, wpOrT_mono st.mono (b :: es) (fun d s2 q H2 k2 hs2 => q H2 (k.trans k2) hs2) h1⟩
    · rw [if_pos rfl] at h1 ⊢
      exact h1 H1 k hs1
end
end PL
namespace PL
open PySem PySem.Spec PyProof.Rows L2
section
variable {X : Cx} {K : Kc} {G : Gs} {C : Cs} {N : List Str} {sc : Scope} {fn : Str → Bool}
theorem rngOf_one {ds : List D} {r : Int × Nat × Int} (h : rngOf ds = some r) (hl : ds.length ≤ 2) : r.2.2 = 1 := by
  unfold rngOf at h
  split at h
  · split at h <;> cases h; rfl
  · split at h <;> cases h; rfl
  · simp at hl
  · cases h
theorem rg_rep {H : Hp} {a b : Int} {n : Nat} (h : n = (b - a).toNat) : RepDs K H (rangeL a n 1) (rgV a b) := by
  subst h
  unfold rangeL rgV
  generalize List.range (b - a).toNat = xs
  induction xs with
  | nil => exact RepDs.nil
  | cons x xs ih => exact .cons (by show V.int _ = V.int _; rw [Int.mul_one]) ih
/-- what range(..) asks -/
theorem rg_ask (st : Stat K G C N sc fn X) {es : List E} (hl : es.length ≤ 2) {σ : L2.St} {H : Hp} {W : List D → PL.S → Prop} {Q : Int → Int → Hp → Prop} (h : ∃ ρ s, RepE K H ρ σ ∧ RepS K H s ∧ wpEs C es ρ s W) (hW : ∀ ds s, W ds s → ∃ r, rngOf ds = some r ∧ r.2.1 ≤ lim ∧ (r.2.2 = 1 → ∀ H', Keep K H H' → RepS K H' s → RgOk r.1 (r.1 + r.2.1) → ∀ b, r.2.1 = (b - r.1).toNat → -(2 ^ 62) ≤ b ∧ b < 2 ^ 62 → -(2 ^ 62) ≤ r.1 ∧ r.1 < 2 ^ 62 → Q r.1 b H')) :
    ∃ ρ s, RepE K H ρ σ ∧ RepS K H s ∧ wpEs C es ρ s fun xs s1 => ∃ r, rngOf xs = some r ∧ r.2.2 = 1 ∧ r.2.1 ≤ lim ∧ ∀ H', Keep K H H' → RepS K H' s1 → RgOk r.1 (r.1 + r.2.1) → ∀ b, r.2.1 = (b - r.1).toNat → -(2 ^ 62) ≤ b ∧ b < 2 ^ 62 → -(2 ^ 62) ≤ r.1 ∧ r.1 < 2 ^ 62 → Q r.1 b H' := by
  obtain ⟨ρ, s, hρ, hs, h⟩ := h
  refine ⟨ρ, s, hρ, hs, wpEs_mono st.mono es (fun ds s1 ⟨l, w⟩ => ?_) (wpEs_len st.mono h)⟩
  obtain ⟨r, e0, e1, q⟩ := hW ds s1 w
  have h1 := rngOf_one e0 (by omega)
  exact ⟨r, e0, h1, e1, q h1⟩
theorem e_listR (st : Stat K G C N sc fn X) {ys : List Expr} {es : List E} {n : Nat} {x z : Str} {p p2 pos pos2 : Pos} (hx : x = "list") (hz : z = "range") (f1 : G.free.contains x = true) (f2 : G.free.contains z = true) (g1 : glB sc x = true) (g2 : glB sc z = true) (h1 : ys.all noStar = true) (h2 : 1 ≤ ys.length) (h3 : ys.length ≤ 2) (hl : es.length = ys.length)
    (ha : ∀ (i : Nat) (e : E) (y : Expr), es[i]? = some e → ys[i]? = some y → PE X y (tE K C e)) : PE X (.Call (.Name x p) [.Call (.Name z p2) ys [] pos2] [] pos) (tE K C (.bi (.listR n) es)) := by
  subst hx hz
  obtain ⟨a1, a2, a3⟩ := gl_of st.sC g1
  obtain ⟨t, ht, imp⟩ := prg_of st (p := p2) (pos := pos2) f2 g2 h1 h2 h3 hl ha
  refine pe_imp (pe_listRg st.calm a1 (free_of st f1) ht) fun σ H Q ⟨ρ, s, hρ, hs, h⟩ => ?_
  simp only [wpE, wpBi] at h
  refine imp σ H _ (rg_ask (Q := fun a b H1 => RgOk a b ∧ ∀ q, H1 q = none → Q (.ref q) (upd H1 q (.lst (rgV a b)))) st (by omega) ⟨ρ, s, hρ, hs, h⟩ fun ds s1 w => ?_)
  obtain ⟨r, e0, e1, q⟩ := w
  refine ⟨r, e0, e1, fun hr H' k hs' _ b eb hb ha' => ⟨⟨ha'.1, ha'.2, hb.1, hb.2, ?_⟩, fun l hp => ?_⟩⟩
  · rw [← eb]; simp only [lim] at e1; omega
  · rw [hr] at q
    exact q (l + 1) (hs'.no hp) _ _ (k.trans (Keep.up hp)) rfl (hs'.new hp ⟨l, _, rfl, upd_same, rg_rep eb⟩)
theorem e_tupR (st : Stat K G C N sc fn X) {ys : List Expr} {es : List E} {n : Nat} {x z : Str} {p p2 pos pos2 : Pos} (hx : x = "tuple") (hz : z = "range") (f1 : G.free.contains x = true) (f2 : G.free.contains z = true) (g1 : glB sc x = true) (g2 : glB sc z = true) (h1 : ys.all noStar = true) (h2 : 1 ≤ ys.length) (h3 : ys.length ≤ 2) (hl : es.length = ys.length)
    (ha : ∀ (i : Nat) (e : E) (y : Expr), es[i]? = some e → ys[i]? = some y → PE X y (tE K C e)) : PE X (.Call (.Name x p) [.Call (.Name z p2) ys [] pos2] [] pos) (tE K C (.bi (.tupleR n) es)) := by
  subst hx hz
  obtain ⟨a1, a2, a3⟩ := gl_of st.sC g1
  obtain ⟨t, ht, imp⟩ := prg_of st (p := p2) (pos := pos2) f2 g2 h1 h2 h3 hl ha
  refine pe_imp (pe_tupRgX st.calm a1 (free_of st f1) ht) fun σ H Q ⟨ρ, s, hρ, hs, h⟩ => ?_
  simp only [wpE, wpBi] at h
  refine imp σ H _ (rg_ask (Q := fun a b H1 => RgOk a b ∧ ∀ q us, H1 q = none → Q (.ref q) (upd H1 q (HX us (rgV a b)))) st (by omega) ⟨ρ, s, hρ, hs, h⟩ fun ds s1 w => ?_)
  obtain ⟨r, e0, e1, q⟩ := w
  refine ⟨r, e0, e1, fun hr H' k hs' _ b eb hb ha' => ⟨⟨ha'.1, ha'.2, hb.1, hb.2, ?_⟩, fun l us hp => ?_⟩⟩
  · rw [← eb]; simp only [lim] at e1; omega
  · rw [hr] at q
    refine q _ _ (k.trans (Keep.up hp)) ?_ (hs'.up hp)
    simp only [RepD]
    exact ⟨l, _, rfl, SqX.new, rg_rep eb⟩
end
end PL
end

section
set_option Elab.async false
set_option linter.all false
set_option maxRecDepth 100000
set_option maxHeartbeats 4000000
namespace PL
open PySem PySem.Spec PyProof.Rows L2

/-! ## comprehensions -/
def gNm : List Nat → TGs
  | [] => gNil
  | i :: is => gCons (gName i) (gNm is)
def gOf (k : PySem.W.Frag) (tg : List Nat) : Bool → TG
  | true => gTup k tg.length (gNm tg)
  | false => match tg with
    | [i] => gName i
    | _ => fun _ _ _ _ => False
section
variable {X : Cx} {K : Kc} {G : Gs} {C : Cs} {N : List Str} {sc : Scope} {fn : Str → Bool}
theorem loc_of {x : Str} (h : locB sc fn x = true) : Loc sc x ∧ (fn x = true ∨ sc.names.lookup x = some .local) := by
  unfold locB at h
  split at h
  · next e => exact ⟨.inl e, .inr e⟩
  · next e => exact ⟨.inr e, .inl h⟩
  · cases h
theorem pg_nm (st : Stat K G C N sc fn X) {i : Nat} {x : Str} {p : Pos} (h1 : N[i]? = some x) (h2 : locB sc fn x = true) : PG X (.Name x p) (gName i) := by
  obtain ⟨l, f⟩ := loc_of h2
  exact pg_name (by rw [st.nN]; exact st.nd) (by rw [st.nN]; exact h1) (by rw [st.sC]; exact l) (by rw [st.fN, st.sC]; exact f)
theorem pgs_nm (st : Stat K G C N sc fn X) : ∀ {tg : List Nat} {es : List Expr}, tgB N sc fn tg es = true → PGs X es (gNm tg) ∧ (assignEach es X.env).length = tg.length ∧ (assignEach es X.env).findIdx? (·.1) = none
  | [], [], _ => ⟨pgs_nil, rfl, rfl⟩
  | i :: is, .Name x p :: r, h => by
    simp only [tgB, Bool.and_eq_true, decide_eq_true_eq] at h
    obtain ⟨h1, h2, h3⟩ := pgs_nm st h.2
    refine ⟨pgs_cons (pg_nm st h.1.1 h.1.2) h1 rfl, ?_, ?_⟩
    · show (assignEach r X.env).length + 1 = _
      rw [h2]; rfl
    · show ((false, assign (.Name x p) X.env) :: assignEach r X.env).findIdx? (·.1) = none
      rw [List.findIdx?_cons, h3]; rfl
  | [], _ :: _, h => by simp [tgB] at h
  | i :: is, [], h => by simp [tgB] at h
theorem pg_of (st : Stat K G C N sc fn X) {tg : List Nat} {tup : Bool} {t : Expr} (h : tgC N sc fn tg tup t = true) : PG X t (gOf X.K tg tup) := by
  cases tup
  · cases t <;> simp only [tgC, Bool.false_eq_true] at h
    next x p =>
    match tg, h with
    | [i], h =>
      simp only [tgB, Bool.and_eq_true, decide_eq_true_eq] at h
      exact pg_nm st h.1.1 h.1.2
    | [], h => simp [tgB] at h
    | _ :: _ :: _, h => simp [tgB] at h
  · cases t <;> simp only [tgC, Bool.false_eq_true] at h
    next es k p =>
    obtain ⟨h1, h2, h3⟩ := pgs_nm st h
    exact pg_tup st.calm h1 h2 h3
theorem gNm_ok {H : Hp} {Q : L2.St → Hp → Prop} : ∀ {tg : List Nat} {ys : List D} {ρ : Vs} {σ : L2.St} {vs : List V}, RepE K H ρ σ → RepDs K H ys vs → ys.length = tg.length →
    (∀ σ', RepE K H ((tg.zip ys).foldl (fun r p => r.set p.1 (some p.2)) ρ) σ' → (∀ own : List Nat, (∀ i ∈ tg, i ∈ own) → L2.wipe σ' own = L2.wipe σ own) → Q σ' H) → gNm tg vs σ H Q
  | [], [], ρ, σ, vs, hρ, r, _, h => by
    cases r
    exact ⟨rfl, h σ hρ fun _ _ => rfl⟩
  | i :: is, y :: ys, ρ, σ, vs, hρ, r, hl, h => by
    simp only [RepDs] at r
    obtain ⟨v, vs, rfl, rv, r⟩ := r
    refine ⟨v, vs, rfl, ?_⟩
    show gNm is vs (σ.set i (some v)) H Q
    refine gNm_ok (hρ.set rv) r (by simpa using hl) fun σ' h1 h2 => h σ' h1 fun own hown => ?_
    rw [h2 own fun j hj => hown j (by simp [hj]), wipe_set (hown i (by simp))]
  | [], _ :: _, _, _, _, _, _, hl, _ => by simp at hl
  | _ :: _, [], _, _, _, _, _, hl, _ => by simp at hl
theorem gOf_ok {H : Hp} {Q : L2.St → Hp → Prop} {tg : List Nat} {tup : Bool} {d : D} {v : V} {ρ ρ' : Vs} {σ : L2.St} {k : PySem.W.Frag} (hk : K.K = k) (hρ : RepE K H ρ σ) (r : RepD K H d v) (hb : bindC tg tup d ρ = some ρ')
    (h : ∀ σ', RepE K H ρ' σ' → (∀ own : List Nat, (∀ i ∈ tg, i ∈ own) → L2.wipe σ' own = L2.wipe σ own) → Q σ' H) : gOf k tg tup v σ H Q := by
  subst hk
  unfold bindC at hb
  cases tup
  · rw [if_neg (by simp)] at hb
    split at hb
    · next i =>
      cases hb
      exact h _ (hρ.set r) fun own hown => wipe_set (hown i (by simp))
    · cases hb
  · rw [if_pos rfl] at hb
    split at hb
    · next ys =>
      split at hb
      · next hl =>
        cases hb
        obtain ⟨a, vs, rfl, q, rr⟩ := r.tupI
        exact ⟨a, vs, rfl, q.t, by rw [← rr.length]; exact hl, gNm_ok hρ rr hl h⟩
      · cases hb
    · cases hb
theorem blk_stat (st : Stat K G C N sc fn X) {scope : Scope} (hk : scope.kind = .function) (s : Shared) (H : Hp) (C0 : Addr) (cl : List (Str × Addr)) (fp : List Addr) : Stat K G C N (relS scope sc) (fnB scope) (X.blk s H scope (compEnvC scope cl C0 X.env) fp) :=
  ⟨st.kk, st.nN, st.nd, by have := st.sC; subst this; rfl, rfl, hk, st.calm, rfl, st.un, st.free, st.mono, st.call⟩
/-- a comprehension's reading -/
theorem lc_imp (st : Stat K G C N sc fn X) {el it : E} {cond : Option E} {tg own : List Nat} {tup : Bool} (hsub : ∀ i ∈ tg, i ∈ own) (σ : L2.St) (H : Hp) (Q : VK) (h : tE K C (.comp el tg tup it cond own) σ H Q) :
    tLc (tI K C it) (gOf X.K tg tup) (tC' K C cond) (tE K C el) own σ H Q := by
  obtain ⟨ρ, s, hρ, hs, h⟩ := h
  simp only [wpE] at h
  refine ⟨ρ, s, hρ, hs, wpI_mono st.mono it (fun chk xs s1 h1 J H1 k1 hs1 hJ => ?_) h⟩
  intro A0 hD
  have h1 := h1 (A0 + 1) (hs1.no hD)
  generalize hQs : (fun s' => PQ K H Q (.loc (A0 + 1)) s') = Qs at h1
  generalize hturn : (fun (x : D) (s2 : PL.S) (k : Option D → PL.S → Prop) => match bindC tg tup x (wipeV ρ own) with
        | none => False
        | some ρ' => wpC C cond ρ' s2 fun b s3 => if b = true then wpE C el ρ' s3 fun y s4 => k (some y) s4 else k none s3) = turn at h1
  have hD1 : RepS K (upd H1 A0 (.lst [])) (s1.up (A0 + 1) (.lst [])) := hs1.new hD ⟨A0, [], rfl, upd_same, RepDs.nil⟩
  refine ⟨fun i m H2 => m = xs.length - i ∧ i ≤ xs.length ∧ ∃ acc s2, Keep K H1 H2 ∧ RepS K H2 s2 ∧ compL chk (A0 + 1) turn Qs (xs.drop i) acc s2, ⟨xs.length, by simp, Nat.zero_le _, [], _, Keep.up hD, hD1, h1⟩, ?_⟩
  rintro i m H2 ⟨rfl, hi, acc, s2, k2, hs2, hc⟩
  by_cases hlt : i < xs.length
  · have ex : xs[i]? = some xs[i] := List.getElem?_eq_getElem hlt
    rw [List.drop_eq_getElem_cons hlt] at hc
    simp only [compL] at hc
    obtain ⟨hchk, hc⟩ := hc
    obtain ⟨go, yl⟩ := hJ.go i _ H2 s2 k2 hs2 hchk ex
    refine .inr ⟨go, fun H3 => ∃ acc s3, Keep K H1 H3 ∧ RepS K H3 s3 ∧ compL chk (A0 + 1) turn Qs (xs.drop (i + 1)) acc s3, fun H3 ⟨acc, s3, a1, a2, a3⟩ => ⟨_, by omega, rfl, hlt, acc, s3, a1, a2, a3⟩, fun x H3 hy => ?_⟩
    obtain ⟨rx, k3, hs3⟩ := yl x H3 hy
    rw [← hturn] at hc
    simp only at hc
    split at hc
    · exact hc.elim
    · next ρ' eb =>
      have kk : Keep K H H3 := (k1.trans k2).trans k3
      refine gOf_ok st.kk ((hρ.wipe (vs := own)).keep kk) rx eb fun σ' hρ' hw => ⟨by rw [hw own hsub, wipe_wipe], ?_⟩
      refine tC'.mk st.mono hρ' hs3 hc fun b s4 H4 k4 hs4 hc => ?_
      cases b
      · rw [if_neg (by simp)] at hc ⊢
        obtain ⟨q1, s0, q2, q3⟩ := hc
        exact ⟨acc, s0, (k2.trans k3).trans k4, hs4.le q2, by rw [← hturn]; exact q3⟩
      · rw [if_pos rfl] at hc ⊢
        refine tE.mk st.mono (hρ'.keep k4) hs4 hc fun y s5 v H5 k5 ry hs5 ⟨q1, q2, s0, q3, q4⟩ => ?_
        obtain ⟨n, vs, en, e5, r5⟩ := hs5 _ _ q1
        cases en
        have hw : Keep K H5 (upd H5 A0 (.lst (vs ++ [v]))) := Keep.write e5 trivial
        refine ⟨vs, e5, by rw [lim_eq, ← r5.length]; exact q2, acc ++ [y], s0, (((k2.trans k3).trans k4).trans k5).trans hw, ?_, by rw [← hturn]; exact q4⟩
        refine RepS.le (RepS.write (u := .lst (acc ++ [y])) e5 trivial hs5 ⟨A0, vs ++ [v], rfl, upd_same, ?_⟩) q3
        exact RepDs.keep hw _ _ (r5.append (.one ry))
  · have e : i = xs.length := by omega
    subst e
    rw [List.drop_eq_nil_of_le (Nat.le_refl _)] at hc
    simp only [compL] at hc
    obtain ⟨hchk, e1, hq⟩ := hc
    rw [← hQs] at hq
    exact .inl ⟨hJ.stop H2 s2 k2 hs2 hchk, hq _ _ (k1.trans k2) rfl hs2⟩
theorem fold_ok {i : Expr} {env : PySem.Env} (h : (match i with | .Set .. => false | _ => true) = true) : ∀ x, foldedSetIterable i env x = pure x := by
  intro x
  cases i <;> first | rfl | (simp at h)
theorem e_comp (st : Stat K G C N sc fn X) {el it : E} {cond : Option E} {tg own : List Nat} {tup : Bool} {e t i : Expr} {ifs : List Expr} {scope : Scope} {ow : List (Str × Nat)} {p : Pos} (hb : blkC N sc scope ow = true) (how : ow.map (·.2) = own)
    (hsub : ∀ i ∈ tg, i ∈ own) (htg : tgC N (relS scope sc) (fnB scope) tg tup t = true) (hi : PI X t i (tI K C it)) (hfs : ∀ x, foldedSetIterable i X.env x = pure x)
    (hc : ∀ X', Stat K G C N (relS scope sc) (fnB scope) X' → PTs X' ifs (tC' K C cond)) (he : ∀ X', Stat K G C N (relS scope sc) (fnB scope) X' → PE X' e (tE K C el)) : PE X (.ListComp e [⟨t, i, ifs, 0⟩] scope p) (tE K C (.comp el tg tup it cond own)) := by
  have ok : BlkOk X.N X.env.scope scope ow := by rw [st.nN, st.sC]; exact blkOk_by hb
  refine pe_imp (pe_lc (g := gOf X.K tg tup) st.calm (by rw [st.nN]; exact st.nd) hi ok (fun s H C0 cl fp => pg_of (blk_stat st ok.kind s H C0 cl fp) htg) (fun s H C0 cl fp => hc _ (blk_stat st ok.kind s H C0 cl fp)) (fun s H C0 cl fp => he _ (blk_stat st ok.kind s H C0 cl fp)) hfs) fun σ H Q h => ?_
  rw [how]
  exact lc_imp st hsub σ H Q h
theorem c_none : PTs X [] (tC' K C none) := ⟨fun pins s σ H Q I ⟨ρ, t, hρ, hs, h⟩ => pts_nil.run pins s σ H Q I (by
  simp only [wpC] at h
  exact h H Keep.refl hs)⟩
theorem c_one {a : E} {x : Expr} (h : PT X x (tT K C a)) : PTs X [x] (tC' K C (some a)) := ⟨fun pins s σ H Q I ⟨ρ, t, hρ, hs, q⟩ => (pts_one h).run pins s σ H Q I (by
  simp only [wpC] at q
  exact ⟨ρ, t, hρ, hs, q⟩)⟩
theorem own_of {own : List Nat} {scope : Scope} : ∀ {ow : List (Str × Nat)}, ownB N own scope = some ow → ow.map (·.2) = own := by
  unfold ownB
  induction own with
  | nil => intro ow h; cases h; rfl
  | cons i is ih =>
    intro ow h
    obtain ⟨y, r, e1, e2, rfl⟩ := mapM_cons_some h
    obtain ⟨x, _, rfl⟩ := Option.map_eq_some_iff.mp e1
    simp [ih e2]
/-- isinstance -/
theorem e_isi (st : Stat K G C N sc fn X) {c : Cl} {a : E} {x z : Str} {y : Expr} {p p2 pos : Pos} (hx : x = "isinstance") (hz : z = Str.ofString (clT c)) (h1 : G.free.contains x = true) (h2 : G.free.contains z = true) (g1 : glB sc x = true) (g2 : glB sc z = true) (hn : noStar y = true) (ha : PE X y (tE K C a)) :
    PE X (.Call (.Name x p) [y, .Name z p2] [] pos) (tE K C (.bi (.isi c) [a])) := by
  subst hx hz
  obtain ⟨a1, a2, a3⟩ := gl_of st.sC g1
  obtain ⟨b1, b2, b3⟩ := gl_of st.sC g2
  have hb : bootBuiltins (Str.ofString (clT c)) = some (.type (clT c)) := by cases c <;> decide +kernel
  refine pe_imp (pe_callB call_isi a1 (free_of st h1) (by decide +kernel) (pa_cons ha (pa_cons (pe_bltn (v := .ty (clT c)) b1 (free_of st h2) hb rfl b3 b2) pa_nil) (star_cons hn)) a3 a2 (star_cons hn) (star_all (es := [.Name (Str.ofString (clT c)) p2]) rfl)) fun σ H Q ⟨ρ, s, hρ, hs, h⟩ => ?_
  simp only [wpE, wpEs, wpBi] at h
  refine tE.mk st.mono hρ hs h fun d s1 v H1 k r hs1 h1 => ?_
  simp only [wpIsi] at h1
  obtain ⟨b, e, q⟩ := h1
  obtain ⟨t, ty, kt⟩ := isCl_ok hs1 r e
  exact ⟨v, .ty (clT c), t, .type (clT c), b, rfl, .ty _, by rw [← st.kk]; exact ty, by rw [← st.kk]; exact kt, (PQ.at q k).bl hs1⟩
end
/-! ### dict displays -/
def trs (K : Kc) (C : Cs) (ks : List Str) (vs : List E) : List (TE × TE) := List.zipWith (fun k e => (tC (.str k), tE K C e)) ks vs
theorem tPairs_ok {K : Kc} {C : Cs} (hC : CsLe C C) : ∀ {ks : List Str} {vs : List E} {ρ : Vs} {σ : L2.St} {s : PL.S} {H : Hp} {W : List D → PL.S → Prop} {T : List (V × V) → Hp → Prop}, ks.length = vs.length → RepE K H ρ σ → RepS K H s → wpEs C vs ρ s W →
    (∀ ds s1 us H1, Keep K H H1 → RepDs K H1 ds us → ds.length = ks.length → RepS K H1 s1 → W ds s1 → T ((ks.map V.str).zip us) H1) → tPairs (trs K C ks vs) σ H T
  | [], [], ρ, σ, s, H, W, T, _, hρ, hs, h, f => by
    simp only [wpEs] at h
    exact f [] s [] H Keep.refl RepDs.nil rfl hs h
  | k :: ks, e :: vs, ρ, σ, s, H, W, T, hl, hρ, hs, h, f => by
    simp only [wpEs] at h
    show tE K C e σ H fun y H2 => tPairs (trs K C ks vs) σ H2 fun ps H3 => T ((.str k, y) :: ps) H3
    refine tE.mk hC hρ hs h fun d s1 v H1 k1 r hs1 h1 => ?_
    refine tPairs_ok hC (by simpa using hl) (hρ.keep k1) hs1 h1 fun ds s2 us H2 k2 r2 hl2 hs2 h2 => ?_
    exact f (d :: ds) s2 (v :: us) H2 (k1.trans k2) (.cons (RepD.keep k2 _ _ r) r2) (by simp [hl2]) hs2 h2
  | [], _ :: _, _, _, _, _, _, _, hl, _, _, _, _ => by simp at hl
  | _ :: _, [], _, _, _, _, _, _, hl, _, _, _, _ => by simp at hl
theorem mergeK_nodup : ∀ (more kvs : List (Key × V)), ((kvs ++ more).map (·.1)).Nodup → mergeK kvs more = kvs ++ more
  | [], kvs, _ => by simp [mergeK]
  | p :: r, kvs, h => by
    have hp : putK kvs p.1 p.2 = kvs ++ [p] := by
      unfold putK
      rw [if_neg]
      intro hh
      rw [List.any_eq_true] at hh
      obtain ⟨q, hq, e⟩ := hh
      simp only [List.map_append, List.map_cons, List.nodup_append] at h
      exact h.2.2 q.1 (List.mem_map_of_mem hq) p.1 (by simp) (by simpa using e)
    show mergeK (putK kvs p.1 p.2) r = _
    rw [hp, mergeK_nodup r _ (by simpa using h)]
    simp
theorem RepKV.zip {K : Kc} {H : Hp} : ∀ {ks : List Str} {ds : List D} {us : List V}, RepDs K H ds us → RepKV K H ((ks.map D.str).zip ds) ((ks.map Sum.inr).zip us)
  | [], ds, us, _ => by simp [RepKV]
  | k :: ks, [], us, r => by cases r; simp [RepKV]
  | k :: ks, d :: ds, us, r => by
    simp only [RepDs] at r
    obtain ⟨v, t, rfl, rv, rr⟩ := r
    simp only [List.map_cons, List.zip_cons_cons, RepKV]
    exact ⟨.inr k, v, _, rfl, rfl, rv, RepKV.zip rr⟩
section
variable {X : Cx} {K : Kc} {G : Gs} {C : Cs} {N : List Str} {sc : Scope} {fn : Str → Bool}
theorem zip_str {us : List V} : ∀ (ks : List Str) (us : List V), (ks.map V.str).zip us = ((ks.map Sum.inr).zip us).map fun (kv : Key × V) => (kV kv.1, kv.2)
  | [], _ => rfl
  | k :: ks, [] => rfl
  | k :: ks, u :: us => by
    simp only [List.map_cons, List.zip_cons_cons, zip_str (us := us) ks us]
    rfl
theorem e_dic (st : Stat K G C N sc fn X) {ks : List Str} {vs : List E} {keys : List (Option Expr)} {xs : List Expr} {p : Pos} (h15 : ks.length ≤ 15) (hn : ks.Nodup) (hl : ks.length = vs.length) (hk : keysB ks keys = true) (hlx : vs.length = xs.length) (h : PPs X p keys xs (trs K C ks vs)) : PE X (.Dict keys xs p) (tE K C (.dic ks vs)) := by
  have kl : ∀ {ks : List Str} {keys : List (Option Expr)}, keysB ks keys = true → keys.length = ks.length ∧ keys.all (·.isSome) = true := by
    intro ks
    induction ks with
    | nil => intro keys hk; cases keys <;> simp [keysB] at hk ⊢
    | cons k ks ih =>
      intro keys hk
      match keys, hk with
      | some (.Constant (.str x) _ _) :: r, hk =>
        simp only [keysB, Bool.and_eq_true, decide_eq_true_eq] at hk
        obtain ⟨i1, i2⟩ := ih hk.2
        exact ⟨by simp [i1], by simpa using i2⟩
  obtain ⟨kl1, kl2⟩ := kl hk
  cases keys with
  | nil =>
    simp only [List.length_nil] at kl1
    obtain rfl : ks = [] := List.length_eq_zero_iff.mp kl1.symm
    obtain rfl : vs = [] := List.length_eq_zero_iff.mp (by rw [← hl]; rfl)
    obtain rfl : xs = [] := List.length_eq_zero_iff.mp (by rw [← hlx]; rfl)
    refine pe_imp pe_dnewK fun σ H Q ⟨ρ, s, hρ, hs, h⟩ q hq => ?_
    simp only [wpE, wpEs] at h
    have := h (q + 1) (hs.no hq)
    have h2 := this.2
    rw [S.up_up] at h2
    exact h2 _ _ (Keep.up hq) rfl (hs.new hq ⟨q, [], rfl, upd_same, by simp [RepKV]⟩)
  | cons k0 keys =>
    refine pe_imp (pe_disp h kl2 (by rw [kl1, hl, hlx]) (by simp) (by rw [kl1]; exact h15)) fun σ H Q ⟨ρ, s, hρ, hs, h⟩ q hq => ?_
    simp only [wpE] at h
    refine tPairs_ok st.mono hl (hρ.keep (Keep.up hq)) (hs.new (o := .dK []) (u := .dic []) hq ⟨q, [], rfl, upd_same, by simp [RepKV]⟩) (h (q + 1) (hs.no hq)) fun ds s1 us H1 k1 r hld hs1 ⟨e1, q1⟩ => ?_
    obtain ⟨n, kk, en, _, e2, r0⟩ := hs1.dic e1
    cases en
    have : kk = [] := by simpa [RepKV] using r0
    subst this
    refine ⟨e2, (ks.map Sum.inr).zip us, zip_str (us := us) ks us, ?_, ?_⟩
    · rw [List.length_zip, List.length_map]; omega
    · have hul : us.length = ks.length := by rw [← r.length, hld]
      rw [mergeK_nodup _ _ (by
        rw [List.nil_append, List.map_fst_zip (by simp [hul])]
        exact List.Pairwise.map _ (fun a b h e => h (Sum.inr.inj e)) hn), List.nil_append]
      have hw : Keep K H1 (upd H1 q (.dK ((ks.map Sum.inr).zip us))) := Keep.write e2 trivial
      refine (PQ.at q1 ((Keep.up hq).trans k1)) _ _ hw rfl (RepS.write e2 trivial hs1 ⟨q, _, rfl, upd_same, RepKV.keep hw _ _ (RepKV.zip r)⟩)
end
end PL
end

section
set_option Elab.async false
set_option linter.all false
set_option maxRecDepth 100000
set_option maxHeartbeats 4000000
namespace PL
open PySem PySem.Spec PyProof.Rows L2

/-! ## expressions: what is checked is what runs -/
structure LsOk (K : Kc) (C : Cs) (X : Cx) (es : List E) (xs : List Expr) : Prop where
  pa : PA X xs (tEs K C es)
  an : es ≠ [] → ∀ p, PE X (.BoolOp .And xs p) (tAn K C es)
  or : es ≠ [] → ∀ p, PE X (.BoolOp .Or xs p) (tOrr K C es)
  dp : ∀ p (ks : List Str) (keys : List (Option Expr)), keysB ks keys = true → ks.length = es.length → PPs X p keys xs (trs K C ks es)
structure TsOk (K : Kc) (C : Cs) (X : Cx) (es : List E) (xs : List Expr) : Prop where
  an : es ≠ [] → ∀ p, PW X (.BoolOp .And xs p) (tAnT K C es)
  or : es ≠ [] → ∀ p, PW X (.BoolOp .Or xs p) (tOrrT K C es)
section
variable {K : Kc} {G : Gs} {C : Cs} {N : List Str}
theorem ls_nil {X : Cx} : LsOk K C X [] [] := by
  refine ⟨pa_imp pa_nil fun σ H Q ⟨ρ, s, hρ, hs, h⟩ => ?_, fun h => absurd rfl h, fun h => absurd rfl h, fun p ks keys hk hl => ?_⟩
  · simp only [wpEs] at h
    exact h [] H Keep.refl .nil hs
  · cases ks with
    | cons k ks => simp at hl
    | nil => cases keys with
      | nil => exact pps_nil
      | cons k ks => simp [keysB] at hk
theorem ls_cons {sc : Scope} {fn : Str → Bool} {X : Cx} (st : Stat K G C N sc fn X) {e : E} {es : List E} {x : Expr} {xs : List Expr} (hn : noStar x = true) (h : PE X x (tE K C e)) (ht : LsOk K C X es xs) (hl : es.length = xs.length) : LsOk K C X (e :: es) (x :: xs) := by
  refine ⟨pa_imp (pa_cons h ht.pa (star_cons hn)) fun σ H Q ⟨ρ, s, hρ, hs, h⟩ => ?_, fun _ p => ?_, fun _ p => ?_, fun p ks keys hk hlk => ?_⟩
  · simp only [wpEs] at h
    refine tE.mk st.mono hρ hs h fun d s1 v H1 k r hs1 h1 => tEs.mk st.mono (hρ.keep k) hs1 h1 fun ds s2 vs H2 k2 r2 hs2 h2 => ?_
    exact h2 (v :: vs) H2 (k.trans k2) (.cons (RepD.keep k2 _ _ r) r2) hs2
  · cases es with
    | nil => cases xs with
      | nil => exact e_an1 h
      | cons y ys => simp at hl
    | cons b es => cases xs with
      | nil => simp at hl
      | cons y ys => exact e_an2 st h (ht.an (by simp) p)
  · cases es with
    | nil => cases xs with
      | nil => exact e_or1 h
      | cons y ys => simp at hl
    | cons b es => cases xs with
      | nil => simp at hl
      | cons y ys => exact e_or2 st h (ht.or (by simp) p)
  · match ks, keys, hk with
    | k :: ks, some (.Constant (.str z) j q) :: keys, hk =>
      simp only [keysB, Bool.and_eq_true, decide_eq_true_eq] at hk
      obtain ⟨rfl, hk⟩ := hk
      exact pps_cons pe_str h (ht.dp p ks keys hk (by simpa using hlk))
    | [], _, _ => simp at hlk
theorem ts_nil {X : Cx} : TsOk K C X [] [] := ⟨fun h => absurd rfl h, fun h => absurd rfl h⟩
theorem ts_cons {sc : Scope} {fn : Str → Bool} {X : Cx} (st : Stat K G C N sc fn X) {e : E} {es : List E} {x : Expr} {xs : List Expr} (h : PT X x (tT K C e)) (ht : TsOk K C X es xs) (hl : es.length = xs.length) : TsOk K C X (e :: es) (x :: xs) := by
  refine ⟨fun _ p => ?_, fun _ p => ?_⟩
  · cases es with
    | nil => cases xs with
      | nil => exact w_an1 h
      | cons y ys => simp at hl
    | cons b es => cases xs with
      | nil => simp at hl
      | cons y ys => exact w_an2 st h (ht.an (by simp) p)
  · cases es with
    | nil => cases xs with
      | nil => exact w_or1 h
      | cons y ys => simp at hl
    | cons b es => cases xs with
      | nil => simp at hl
      | cons y ys => exact w_or2 st h (ht.or (by simp) p)
theorem chkTs_len {sc : Scope} : ∀ {es : List E} {xs : List Expr}, chkTs G N es sc xs = true → es.length = xs.length
  | [], [], _ => rfl
  | e :: es, x :: xs, h => by
    simp only [chkTs, Bool.and_eq_true] at h
    simp [chkTs_len h.2]
  | [], _ :: _, h => by simp [chkTs] at h
  | _ :: _, [], h => by simp [chkTs] at h
end
variable {K : Kc} {G : Gs} {C : Cs} {N : List Str}
mutual
theorem sE : ∀ (e : E) {sc : Scope} {fn : Str → Bool} {X : Cx} {ex : Expr}, Stat K G C N sc fn X → chkE G N e sc ex = true → PE X ex (tE K C e)
  | .var i, sc, fn, X, ex, st, h => by
    cases ex <;> simp only [chkE, Bool.false_eq_true] at h
    simp only [Bool.and_eq_true, decide_eq_true_eq] at h
    exact e_var st h.1.1 h.1.2 h.2
  | .own i, sc, fn, X, ex, st, h => by
    cases ex <;> simp only [chkE, Bool.false_eq_true] at h
    simp only [Bool.and_eq_true, decide_eq_true_eq] at h
    refine pe_imp (e_var st h.1.1 h.1.2 h.2) fun σ H Q ⟨ρ, s, hρ, hs, q⟩ => ⟨ρ, s, hρ, hs, ?_⟩
    simpa only [wpE] using q
  | .mv i, sc, fn, X, ex, st, h => by
    cases ex <;> simp only [chkE, Bool.false_eq_true] at h
    simp only [Bool.and_eq_true, decide_eq_true_eq] at h
    refine pe_imp (e_var st h.1.1 h.1.2 h.2) fun σ H Q ⟨ρ, s, hρ, hs, q⟩ => ⟨ρ, s, hρ, hs, ?_⟩
    simpa only [wpE] using q
  | .int i, sc, fn, X, ex, st, h => by
    match ex, h with
    | .Constant (.int j) k p, h =>
      simp only [chkE, decide_eq_true_eq] at h
      subst h
      exact e_int
  | .str i, sc, fn, X, ex, st, h => by
    match ex, h with
    | .Constant (.str j) k p, h =>
      simp only [chkE, decide_eq_true_eq] at h
      subst h
      exact e_str
  | .bl i, sc, fn, X, ex, st, h => by
    match ex, h with
    | .Constant (.bool j) k p, h =>
      simp only [chkE, decide_eq_true_eq] at h
      subst h
      exact e_bl
  | .non, sc, fn, X, ex, st, h => by
    match ex, h with
    | .Constant .none k p, h => exact e_non
  | .tup es, sc, fn, X, ex, st, h => by
    cases ex <;> simp only [chkE, Bool.false_eq_true] at h
    simp only [Bool.and_eq_true, decide_eq_true_eq] at h
    exact e_tup st h.1.1 (sEs es st h.1.2 h.2).pa
  | .lst es, sc, fn, X, ex, st, h => by
    cases ex <;> simp only [chkE, Bool.false_eq_true] at h
    simp only [Bool.and_eq_true, decide_eq_true_eq] at h
    exact e_lst st h.1.1 (sEs es st h.1.2 h.2).pa
  | .dic ks vs, sc, fn, X, ex, st, h => by
    cases ex <;> simp only [chkE, Bool.false_eq_true] at h
    simp only [Bool.and_eq_true, decide_eq_true_eq] at h
    obtain ⟨⟨⟨⟨⟨h1, h2⟩, h3⟩, h4⟩, h6⟩, h5⟩ := h
    exact e_dic st h1 h2 h3 h4 (chkEs_len h5) ((sEs vs st h6 h5).dp _ _ _ h4 h3)
  | .bin op a b, sc, fn, X, ex, st, h => by
    cases ex <;> simp only [chkE, Bool.false_eq_true] at h
    simp only [Bool.and_eq_true, decide_eq_true_eq] at h
    obtain ⟨⟨rfl, h1⟩, h2⟩ := h
    exact e_bin st (sE a st h1) (sE b st h2)
  | .neg a, sc, fn, X, ex, st, h => by
    match ex, h with
    | .UnaryOp .USub x p, h =>
      simp only [chkE] at h
      exact e_neg st (sE a st h)
  | .not a, sc, fn, X, ex, st, h => by
    match ex, h with
    | .UnaryOp .Not x p, h =>
      simp only [chkE] at h
      exact e_not st (sE a st h)
  | .and es, sc, fn, X, ex, st, h => by
    match ex, h with
    | .BoolOp .And xs p, h =>
      simp only [chkE, Bool.and_eq_true, Bool.not_eq_true'] at h
      refine pe_imp ((sEs es st h.1.2 h.2).an (by rintro rfl; simp at h) _) fun σ H Q ⟨ρ, s, hρ, hs, q⟩ => ⟨ρ, s, hρ, hs, ?_⟩
      simpa only [wpE] using q
  | .or es, sc, fn, X, ex, st, h => by
    match ex, h with
    | .BoolOp .Or xs p, h =>
      simp only [chkE, Bool.and_eq_true, Bool.not_eq_true'] at h
      refine pe_imp ((sEs es st h.1.2 h.2).or (by rintro rfl; simp at h) _) fun σ H Q ⟨ρ, s, hρ, hs, q⟩ => ⟨ρ, s, hρ, hs, ?_⟩
      simpa only [wpE] using q
  | .ife c a b, sc, fn, X, ex, st, h => by
    cases ex <;> simp only [chkE, Bool.false_eq_true] at h
    simp only [Bool.and_eq_true] at h
    exact e_ife st (sT c st h.1.1) (sE a st h.1.2) (sE b st h.2)
  | .cmp op a b, sc, fn, X, ex, st, h => by
    match ex, h with
    | .Compare x [o] [y] p, h =>
      simp only [chkE, Bool.and_eq_true, decide_eq_true_eq, Bool.not_eq_true'] at h
      obtain ⟨⟨⟨rfl, h1⟩, h2⟩, h3⟩ := h
      exact e_cmp st h1 (sE a st h2) (sE b st h3)
  | .chain o1 o2 a b c, sc, fn, X, ex, st, h => by
    match ex, h with
    | .Compare x [o, o'] [y, z] p, h =>
      simp only [chkE, Bool.and_eq_true, decide_eq_true_eq, Bool.not_eq_true'] at h
      obtain ⟨⟨⟨⟨⟨rfl, rfl⟩, h1⟩, h2⟩, h3⟩, h4⟩ := h
      exact e_chain st h1 (sE a st h2) (sE b st h3) (sE c st h4)
  | .isN n a, sc, fn, X, ex, st, h => by
    match ex, h with
    | .Compare x [o] [.Constant .none k p2] p, h =>
      simp only [chkE, Bool.and_eq_true, decide_eq_true_eq] at h
      obtain ⟨rfl, h1⟩ := h
      exact e_isN st (sE a st h1)
  | .call f es, sc, fn, X, ex, st, h => by
    match ex, h with
    | .Call (.Name x p1) (y :: ys) [] p, h =>
      simp only [chkE, Bool.and_eq_true, decide_eq_true_eq] at h
      obtain ⟨⟨⟨⟨h1, h2⟩, h3⟩, h4⟩, h5⟩ := h
      exact e_call st h1 h2 h3 h4 (sEs es st (by rw [List.all_cons, h3, h4]; rfl) h5).pa
  | .bi b es, sc, fn, X, ex, st, h => by
    rw [chkE.eq_def] at h
    simp only at h
    split at h
    case h_21 =>
      next hq =>
      cases hq
      simp only [Bool.and_eq_true, decide_eq_true_eq] at h
      obtain ⟨⟨⟨⟨⟨⟨⟨h1, h2⟩, h3⟩, h4⟩, h5⟩, h6⟩, h7⟩, h8⟩ := h
      exact e_isi st h1 h2 h3 h4 h5 h6 h7 (sE _ st h8)
    case h_22 =>
      next hq =>
      cases hq
      simp only [Bool.and_eq_true, decide_eq_true_eq] at h
      obtain ⟨⟨⟨⟨⟨⟨⟨⟨⟨h1, h2⟩, h3⟩, h4⟩, h5⟩, h6⟩, h7⟩, h8⟩, h9⟩, h10⟩ := h
      exact e_listR st h1 h2 h3 h4 h5 h6 h7 h8 h9 (chkEs_len h10) (sEl es st h10)
    case h_23 =>
      next hq =>
      cases hq
      simp only [Bool.and_eq_true, decide_eq_true_eq] at h
      obtain ⟨⟨⟨⟨⟨⟨⟨⟨⟨h1, h2⟩, h3⟩, h4⟩, h5⟩, h6⟩, h7⟩, h8⟩, h9⟩, h10⟩ := h
      exact e_tupR st h1 h2 h3 h4 h5 h6 h7 h8 h9 (chkEs_len h10) (sEl es st h10)
    case h_24 =>
      next hq =>
      cases hq
      simp only [Bool.and_eq_true, decide_eq_true_eq] at h
      obtain ⟨⟨⟨⟨⟨⟨h1, h2⟩, h3⟩, h4⟩, h5⟩, h6⟩, h7⟩ := h
      exact sBi st h1 h2 h3 h4 h5 h6 (sEs es st (by rw [List.all_cons, h5, h6]; rfl) h7).pa
    all_goals first
      | (cases h; done)
      | (next hq => cases hq)
  | .mt m o es, sc, fn, X, ex, st, h => by
    match ex, h with
    | .Call (.Attribute x name apos) (y :: ys) [] p, h =>
      simp only [chkE, Bool.and_eq_true, decide_eq_true_eq] at h
      obtain ⟨⟨⟨⟨⟨⟨⟨h1, h2⟩, h3⟩, h4⟩, h5⟩, h6⟩, h7⟩, h8⟩ := h
      exact sMt st h1 h5 h6 h3 h2 h4 (sE o st h7) (sEs es st (by rw [List.all_cons, h5, h6]; rfl) h8).pa
  | .ix a b, sc, fn, X, ex, st, h => by
    cases ex <;> simp only [chkE, Bool.false_eq_true] at h
    simp only [Bool.and_eq_true] at h
    exact e_ix st h.1.1 (sE a st h.1.2) (sE b st h.2)
  | .sl a lo hi, sc, fn, X, ex, st, h => by
    match ex, h with
    | .Subscript x (.Slice l u none p2) p, h =>
      simp only [chkE, Bool.and_eq_true] at h
      exact e_sl st (sE a st h.1.1) (sO lo st h.1.2) (sO hi st h.2)
  | .comp el tg tup it cond own, sc, fn, X, ex, st, h => by
    match ex, h with
    | .ListComp e [⟨t, i, ifs, k⟩] scope p, h =>
      simp only [chkE, Bool.and_eq_true, decide_eq_true_eq, List.all_eq_true, List.contains_iff_mem] at h
      obtain ⟨⟨⟨⟨⟨⟨rfl, h1⟩, h2⟩, h3⟩, h4⟩, h5⟩, h6⟩ := h
      split at h1
      · next ow how =>
        obtain ⟨i1, i2⟩ := sI it (tg := t) st h4
        exact e_comp st h1 (own_of how) h2 h3 i1 i2 (fun X' st' => sC cond st' h5) (fun X' st' => sE el st' h6)
      · cases h1
  | .val a, _, _, _, ex, _, h => by simp [chkE] at h
  | .rng a, _, _, _, ex, _, h => by simp [chkE] at h
  | .zip a b, _, _, _, ex, _, h => by simp [chkE] at h
  | .rev a, _, _, _, ex, _, h => by simp [chkE] at h
  | .itm a, _, _, _, ex, _, h => by simp [chkE] at h
  | .vls a, _, _, _, ex, _, h => by simp [chkE] at h
  | .comp2 .., _, _, _, ex, _, h => by simp [chkE] at h
theorem sEs : ∀ (es : List E) {sc : Scope} {fn : Str → Bool} {X : Cx} {xs : List Expr}, Stat K G C N sc fn X → xs.all noStar = true → chkEs G N es sc xs = true → LsOk K C X es xs
  | [], _, _, _, [], _, _, _ => ls_nil
  | e :: es, sc, fn, X, x :: xs, st, hn, h => by
    simp only [chkEs, Bool.and_eq_true] at h
    rw [List.all_cons, Bool.and_eq_true] at hn
    exact ls_cons st hn.1 (sE e st h.1) (sEs es st hn.2 h.2) (chkEs_len h.2)
  | [], _, _, _, _ :: _, _, _, h => by simp [chkEs] at h
  | _ :: _, _, _, _, [], _, _, h => by simp [chkEs] at h
theorem sEl : ∀ (es : List E) {sc : Scope} {fn : Str → Bool} {X : Cx} {xs : List Expr}, Stat K G C N sc fn X → chkEs G N es sc xs = true → ∀ (i : Nat) (e : E) (y : Expr), es[i]? = some e → xs[i]? = some y → PE X y (tE K C e)
  | [], _, _, _, [], _, _, i, e, y, h, _ => by simp at h
  | e :: es, sc, fn, X, x :: xs, st, h, i, e', y, h1, h2 => by
    simp only [chkEs, Bool.and_eq_true] at h
    cases i with
    | zero =>
      simp at h1 h2
      rw [← h1, ← h2]
      exact sE e st h.1
    | succ i => exact sEl es st h.2 i e' y (by simpa using h1) (by simpa using h2)
  | [], _, _, _, _ :: _, _, h, _, _, _, _, _ => by simp [chkEs] at h
  | _ :: _, _, _, _, [], _, h, _, _, _, _, _ => by simp [chkEs] at h
theorem sO : ∀ (o : Option E) {sc : Scope} {fn : Str → Bool} {X : Cx} {x : Option Expr}, Stat K G C N sc fn X → chkO G N o sc x = true → PO X x (tO K C o)
  | none, sc, _, _, none, _, _ => o_none (sc := sc)
  | some e, _, _, _, some x, st, h => by
    simp only [chkO] at h
    exact o_some st (sE e st h)
  | none, _, _, _, some _, _, h => by simp [chkO] at h
  | some _, _, _, _, none, _, h => by simp [chkO] at h
theorem sC : ∀ (o : Option E) {sc : Scope} {fn : Str → Bool} {X : Cx} {x : List Expr}, Stat K G C N sc fn X → chkC G N o sc x = true → PTs X x (tC' K C o)
  | none, sc, _, _, [], _, _ => c_none
  | some e, _, _, _, [x], st, h => by
    simp only [chkC] at h
    exact c_one (sT e st h)
  | none, _, _, _, _ :: _, _, h => by simp [chkC] at h
  | some _, _, _, _, [], _, h => by simp [chkC] at h
  | some _, _, _, _, _ :: _ :: _, _, h => by simp [chkC] at h
theorem sT : ∀ (e : E) {sc : Scope} {fn : Str → Bool} {X : Cx} {ex : Expr}, Stat K G C N sc fn X → chkT G N e sc ex = true → PT X ex (tT K C e)
  | .not a, sc, fn, X, ex, st, h => by
    match ex, h with
    | .UnaryOp .Not x p, h =>
      simp only [chkT] at h
      exact t_not st (sT a st h)
  | .and es, sc, fn, X, ex, st, h => by
    match ex, h with
    | .BoolOp .And xs p, h =>
      simp only [chkT, Bool.and_eq_true, Bool.not_eq_true'] at h
      refine pt_imp ((sTs es st h.2).an (by rintro rfl; simp at h) _).pt fun σ H Q ⟨ρ, s, hρ, hs, q⟩ => ⟨ρ, s, hρ, hs, ?_⟩
      simpa only [wpT] using q
  | .or es, sc, fn, X, ex, st, h => by
    match ex, h with
    | .BoolOp .Or xs p, h =>
      simp only [chkT, Bool.and_eq_true, Bool.not_eq_true'] at h
      refine pt_imp ((sTs es st h.2).or (by rintro rfl; simp at h) _).pt fun σ H Q ⟨ρ, s, hρ, hs, q⟩ => ⟨ρ, s, hρ, hs, ?_⟩
      simpa only [wpT] using q
  | .cmp op a b, sc, fn, X, ex, st, h => by
    match ex, h with
    | .Compare x [o] [y] p, h =>
      simp only [chkT, Bool.and_eq_true, decide_eq_true_eq, Bool.not_eq_true'] at h
      obtain ⟨⟨⟨rfl, h1⟩, h2⟩, h3⟩ := h
      exact t_cmp st h1 (sE a st h2) (sE b st h3)
  | .chain o1 o2 a b c, sc, fn, X, ex, st, h => by
    match ex, h with
    | .Compare x [o, o'] [y, z] p, h =>
      simp only [chkT, Bool.and_eq_true, decide_eq_true_eq, Bool.not_eq_true'] at h
      obtain ⟨⟨⟨⟨⟨rfl, rfl⟩, h1⟩, h2⟩, h3⟩, h4⟩ := h
      exact t_chain st h1 (sE a st h2) (sE b st h3) (sE c st h4)
  | .isN n a, sc, fn, X, ex, st, h => by
    match ex, h with
    | .Compare x [o] [.Constant .none k p2] p, h =>
      simp only [chkT, Bool.and_eq_true, decide_eq_true_eq] at h
      obtain ⟨rfl, h1⟩ := h
      exact t_isN st (sE a st h1)
  | .val e, sc, fn, X, ex, st, h => by
    simp only [chkT, Bool.and_eq_true] at h
    exact t_val st h.1 (sE e st h.2)
  | .var _, _, _, _, ex, _, h => by simp [chkT] at h
  | .own _, _, _, _, ex, _, h => by simp [chkT] at h
  | .mv _, _, _, _, ex, _, h => by simp [chkT] at h
  | .int _, _, _, _, ex, _, h => by simp [chkT] at h
  | .str _, _, _, _, ex, _, h => by simp [chkT] at h
  | .bl _, _, _, _, ex, _, h => by simp [chkT] at h
  | .non, _, _, _, ex, _, h => by simp [chkT] at h
  | .tup _, _, _, _, ex, _, h => by simp [chkT] at h
  | .lst _, _, _, _, ex, _, h => by simp [chkT] at h
  | .dic .., _, _, _, ex, _, h => by simp [chkT] at h
  | .bin .., _, _, _, ex, _, h => by simp [chkT] at h
  | .neg .., _, _, _, ex, _, h => by simp [chkT] at h
  | .ife .., _, _, _, ex, _, h => by simp [chkT] at h
  | .call .., _, _, _, ex, _, h => by simp [chkT] at h
  | .bi .., _, _, _, ex, _, h => by simp [chkT] at h
  | .mt .., _, _, _, ex, _, h => by simp [chkT] at h
  | .ix .., _, _, _, ex, _, h => by simp [chkT] at h
  | .sl .., _, _, _, ex, _, h => by simp [chkT] at h
  | .rng .., _, _, _, ex, _, h => by simp [chkT] at h
  | .zip .., _, _, _, ex, _, h => by simp [chkT] at h
  | .rev .., _, _, _, ex, _, h => by simp [chkT] at h
  | .itm .., _, _, _, ex, _, h => by simp [chkT] at h
  | .vls .., _, _, _, ex, _, h => by simp [chkT] at h
  | .comp .., _, _, _, ex, _, h => by simp [chkT] at h
  | .comp2 .., _, _, _, ex, _, h => by simp [chkT] at h
theorem sTs : ∀ (es : List E) {sc : Scope} {fn : Str → Bool} {X : Cx} {xs : List Expr}, Stat K G C N sc fn X → chkTs G N es sc xs = true → TsOk K C X es xs
  | [], _, _, _, [], _, _ => ts_nil
  | e :: es, sc, fn, X, x :: xs, st, h => by
    simp only [chkTs, Bool.and_eq_true] at h
    exact ts_cons st (sT e st h.1) (sTs es st h.2) (chkTs_len h.2)
  | [], _, _, _, _ :: _, _, h => by simp [chkTs] at h
  | _ :: _, _, _, _, [], _, h => by simp [chkTs] at h
theorem sI : ∀ (e : E) {sc : Scope} {fn : Str → Bool} {X : Cx} {tg ex : Expr}, Stat K G C N sc fn X → chkI G N e sc ex = true → PI X tg ex (tI K C e) ∧ ∀ x, foldedSetIterable ex X.env x = pure x
  | .rng es, sc, fn, X, tg, ex, st, h => by
    match ex, h with
    | .Call (.Name x p1) ys [] p, h =>
      simp only [chkI, Bool.and_eq_true, decide_eq_true_eq] at h
      obtain ⟨⟨⟨⟨⟨⟨rfl, h1⟩, h2⟩, h3⟩, h4⟩, h5⟩, h6⟩ := h
      exact ⟨pi_rng st h1 h2 h3 h4 h5 (chkEs_len h6) (sEs es st h3 h6).pa, fun x => rfl⟩
  | .val e, sc, fn, X, tg, ex, st, h => by
    simp only [chkI, Bool.and_eq_true] at h
    exact ⟨pi_any st (sE e st h.2), fold_ok h.1⟩
  | .rev a, sc, fn, X, tg, ex, st, h => by
    match ex, h with
    | .Call (.Name x p1) [y] [] p, h =>
      simp only [chkI, Bool.and_eq_true, decide_eq_true_eq] at h
      obtain ⟨⟨⟨⟨h1, h2⟩, h3⟩, h4⟩, h5⟩ := h
      exact ⟨pi_rev st h1 h2 h3 h4 (sE a st h5), fun x => rfl⟩
  | .not a, _, _, _, _, ex, _, h => by simp [chkI] at h
  | .and _, _, _, _, _, ex, _, h => by simp [chkI] at h
  | .or _, _, _, _, _, ex, _, h => by simp [chkI] at h
  | .cmp .., _, _, _, _, ex, _, h => by simp [chkI] at h
  | .chain .., _, _, _, _, ex, _, h => by simp [chkI] at h
  | .isN .., _, _, _, _, ex, _, h => by simp [chkI] at h
  | .var _, _, _, _, _, ex, _, h => by simp [chkI] at h
  | .own _, _, _, _, _, ex, _, h => by simp [chkI] at h
  | .mv _, _, _, _, _, ex, _, h => by simp [chkI] at h
  | .int _, _, _, _, _, ex, _, h => by simp [chkI] at h
  | .str _, _, _, _, _, ex, _, h => by simp [chkI] at h
  | .bl _, _, _, _, _, ex, _, h => by simp [chkI] at h
  | .non, _, _, _, _, ex, _, h => by simp [chkI] at h
  | .tup _, _, _, _, _, ex, _, h => by simp [chkI] at h
  | .lst _, _, _, _, _, ex, _, h => by simp [chkI] at h
  | .dic .., _, _, _, _, ex, _, h => by simp [chkI] at h
  | .bin .., _, _, _, _, ex, _, h => by simp [chkI] at h
  | .neg .., _, _, _, _, ex, _, h => by simp [chkI] at h
  | .ife .., _, _, _, _, ex, _, h => by simp [chkI] at h
  | .call .., _, _, _, _, ex, _, h => by simp [chkI] at h
  | .bi .., _, _, _, _, ex, _, h => by simp [chkI] at h
  | .mt .., _, _, _, _, ex, _, h => by simp [chkI] at h
  | .ix .., _, _, _, _, ex, _, h => by simp [chkI] at h
  | .sl .., _, _, _, _, ex, _, h => by simp [chkI] at h
  | .zip .., _, _, _, _, ex, _, h => by simp [chkI] at h
  | .itm .., _, _, _, _, ex, _, h => by simp [chkI] at h
  | .vls .., _, _, _, _, ex, _, h => by simp [chkI] at h
  | .comp .., _, _, _, _, ex, _, h => by simp [chkI] at h
  | .comp2 .., _, _, _, _, ex, _, h => by simp [chkI] at h
end
end PL
end

section
set_option Elab.async false
set_option linter.all false
set_option maxRecDepth 100000
set_option maxHeartbeats 4000000
namespace PL
open PySem PySem.Spec PyProof.Rows L2

/-! ## statements: what is checked -/
mutual
def chkTg (G : Gs) (N : List Str) (sc : Scope) (fn : Str → Bool) : Tg → Expr → Bool
  | .name i, .Name x _ => decide (N[i]? = some x) && locB sc fn x
  | .own i, .Name x _ => decide (N[i]? = some x) && locB sc fn x
  | .tup ts, .Tuple xs _ _ => chkTgs G N sc fn ts xs
  | .sub o i, .Subscript x y _ => noSlice y && chkE G N o sc x && chkE G N i sc y
  | _, _ => false
def chkTgs (G : Gs) (N : List Str) (sc : Scope) (fn : Str → Bool) : List Tg → List Expr → Bool
  | [], [] => true
  | t :: ts, x :: xs => noStar x && chkTg G N sc fn t x && chkTgs G N sc fn ts xs
  | _, _ => false
end
def notComp : Expr → Bool
  | .ListComp .. => false
  | .SetComp .. => false
  | .DictComp .. => false
  | _ => true
def starB : Expr → Bool
  | .Starred .. => true
  | _ => false
def nmOf (look : Str → Option NameKind) (l : Nat) : Expr → Option Str
  | .Name id pos => if (look id == some NameKind.local && pos.line == l) = true then some id else none
  | _ => none
def nmAll (look : Str → Option NameKind) (ts : List Expr) : List Str := ts.filterMap (nmOf look ((ts.head?.map (·.pos.line)).getD 0))
theorem sw_eq {env : PySem.Env} {ts vs : List Expr} {k p k2 p2} : swappedStores [.Tuple ts k p] (.Tuple vs k2 p2) env =
    (if (!(ts.length == 2 || ts.length == 3) || vs.length != ts.length || env.blockKind != ScopeKind.function) = true then pure none
     else if vs.any starB = true then pure none
     else if ((nmAll env.kindOf ts).length != ts.length || (nmAll env.kindOf ts).eraseDups.length != (nmAll env.kindOf ts).length) = true then pure none
     else if vs.all (foldedForSure 8) = true then pure none
     else if vs.all (constantsAlone 8) = true then (do
       unsupported "assign.tuple-of-constant-expressions:order-of-the-stores"
       pure (some (nmAll env.kindOf ts)))
     else pure (some (nmAll env.kindOf ts))) := by
  unfold swappedStores
  simp only [pure_bind]
  rfl
/-- what swappedStores says -/
def swapR (sc : Scope) : Expr → Expr → Option (Option (List Str))
  | .Tuple ts _ _, .Tuple vs _ _ =>
    if (!(ts.length == 2 || ts.length == 3) || vs.length != ts.length) = true then some none
    else if vs.any starB = true then some none
    else if ((nmAll (fun x => sc.names.lookup x) ts).length != ts.length || (nmAll (fun x => sc.names.lookup x) ts).eraseDups.length != (nmAll (fun x => sc.names.lookup x) ts).length) = true then some none
    else if vs.all (foldedForSure 8) = true then some none
    else if vs.all (constantsAlone 8) = true then none
    else some (some (nmAll (fun x => sc.names.lookup x) ts))
  | .List .., .Tuple .. => none
  | _, _ => some none
theorem swapR_ok {env : PySem.Env} {t v : Expr} {sc : Scope} (hs : env.scope = sc) (hk : sc.kind = .function) {r : Option (List Str)} (h : swapR sc t v = some r) : swappedStores [t] v env = pure r := by
  subst hs
  have hb : (env.blockKind != ScopeKind.function) = false := by unfold Env.blockKind; rw [hk]; rfl
  have hkd : env.kindOf = fun x => env.scope.names.lookup x := by funext x; rfl
  unfold swapR at h
  split at h
  · rw [sw_eq, hb, Bool.or_false, hkd]
    split at h
    · next c => cases h; rw [if_pos c]
    · next c =>
      rw [if_neg c]
      split at h
      · next c => cases h; rw [if_pos c]
      · next c =>
        rw [if_neg c]
        split at h
        · next c => cases h; rw [if_pos c]
        · next c =>
          rw [if_neg c]
          split at h
          · next c => cases h; rw [if_pos c]
          · next c =>
            rw [if_neg c]
            split at h
            · cases h
            · next c => cases h; rw [if_neg c]
  · cases h
  · next h1 h2 =>
    cases h
    cases t <;> first
      | rfl
      | (cases v <;> first | rfl | exact (h1 _ _ _ _ _ _ rfl rfl).elim | exact (h2 _ _ _ _ _ rfl rfl).elim)
/-- what swapsWith says of a list comprehension's target -/
def swC (sc : Scope) : Expr → Expr → Bool
  | .Name y py, .ListComp _ _ scope p2 => decide (sc.names.lookup y = some .local) && (py.line == p2.line) && !(scope.names.any fun (n, k) => n == y && (k == .local || k == .cell))
  | _, _ => false
def setDict : Expr → Bool
  | .SetComp .. => true
  | .DictComp .. => true
  | _ => false
/-- one or more names told in parallel -/
def parB (N : List Str) (sc : Scope) : List Tg → List Expr → Bool
  | [.name i, .name j], [.Name x _, .Name y _] => decide (N[i]? = some x) && decide (N[j]? = some y) && decide (i ≠ j) && decide (sc.names.lookup x = some .local) && decide (sc.names.lookup y = some .local)
  | [.name i, .name j, .name l], [.Name x _, .Name y _, .Name z _] => decide (N[i]? = some x) && decide (N[j]? = some y) && decide (N[l]? = some z) && decide (i ≠ j) && decide (i ≠ l) && decide (j ≠ l) &&
      decide (sc.names.lookup x = some .local) && decide (sc.names.lookup y = some .local) && decide (sc.names.lookup z = some .local)
  | _, _ => false
def nmsOf (ts : List Expr) : List Str := ts.filterMap fun | .Name id _ => some id | _ => none
mutual
def chkS (G : Gs) (N : List Str) (sc : Scope) (fn : Str → Bool) : St → Stmt → Bool
  | .asg tg e, .Assign [t] v _ =>
    if swC sc t v then (match tg, e, t, v with
      | .name i, .comp el ctg ctup it cond own, .Name y _, .ListComp e' [⟨t', i', ifs, k⟩] scope _ => decide (k = 0) && decide (N[i]? = some y) && (match ownB N own scope with
          | some ow => blkC N sc scope ow
          | none => false) && ctg.all own.contains && tgC N (relS scope sc) (fnB scope) ctg ctup t' && chkI G N it sc i' && chkC G N cond (relS scope sc) ifs && chkE G N el (relS scope sc) e'
      | .own i, .comp el ctg ctup it cond own, .Name y _, .ListComp e' [⟨t', i', ifs, k⟩] scope _ => decide (k = 0) && decide (N[i]? = some y) && (match ownB N own scope with
          | some ow => blkC N sc scope ow
          | none => false) && ctg.all own.contains && tgC N (relS scope sc) (fnB scope) ctg ctup t' && chkI G N it sc i' && chkC G N cond (relS scope sc) ifs && chkE G N el (relS scope sc) e'
      | _, _, _, _ => false)
    else if setDict v then false
    else match swapR sc t v with
      | some none => noStar t && chkTg G N sc fn tg t && chkE G N e sc v
      | some (some ns) => (match tg, e, t, v with
          | .tup tgs, .tup es, .Tuple ts _ _, .Tuple vs _ _ => parB N sc tgs ts && decide (ns = nmsOf ts) && decide (es.length = tgs.length) && vs.all noStar && chkEs G N es sc vs
          | _, _, _, _ => false)
      | none => false
  | .aug i op e, .AugAssign (.Name x _) o v _ => decide (N[i]? = some x) && locB sc fn x && decide (opOf op = o) && decide (op = .add ∨ op = .sub) && chkE G N e sc v
  | .augS o i op e, .AugAssign (.Subscript x y _) q v _ => noSlice y && decide (opOf op = q) && decide (op = .add ∨ op = .sub) && chkE G N o sc x && chkE G N i sc y && chkE G N e sc v
  | .ife c a b, .If z x y _ => chkT G N c sc z && chkSs G N sc fn a x && chkSs G N sc fn b y
  | .for tg it body, .For t i b [] _ => chkTg G N sc fn tg t && chkI G N it sc i && chkSs G N sc fn body b
  | .while c body, .While z b [] _ => chkT G N c sc z && chkSs G N sc fn body b
  | .ret e, .Return (some x) _ => chkE G N e sc x
  | .retN, .Return none _ => true
  | .expr e, .Expr x _ => notComp x && chkE G N e sc x
  | .pass, .Pass _ => true
  | .pass, .Expr (.Constant (.str _) _ _) _ => true
  | .brk, .Break _ => true
  | .cont, .Continue _ => true
  | _, _ => false
def chkSs (G : Gs) (N : List Str) (sc : Scope) (fn : Str → Bool) : List St → List Stmt → Bool
  | [], [] => true
  | s :: ss, x :: xs => chkS G N sc fn s x && chkSs G N sc fn ss xs
  | _, _ => false
end

/-! ## targets -/
def gW (K : Kc) (C : Cs) (tg : Tg) : TG := fun v σ H Q => ∃ ρ s d, RepE K H ρ σ ∧ RepS K H s ∧ RepD K H d v ∧ wpTg C tg d ρ s fun ρ' s' => ∀ σ' H', Keep K H H' → RepE K H' ρ' σ' → RepS K H' s' → Q σ' H'
def gWs (K : Kc) (C : Cs) (tgs : List Tg) : TGs := fun vs σ H Q => ∃ ρ s ds, RepE K H ρ σ ∧ RepS K H s ∧ RepDs K H ds vs ∧ wpTgs C tgs ds ρ s fun ρ' s' => ∀ σ' H', Keep K H H' → RepE K H' ρ' σ' → RepS K H' s' → Q σ' H'
theorem pg_imp {X : Cx} {e : Expr} {t t' : TG} (h : PG X e t) (f : ∀ v σ H Q, t' v σ H Q → t v σ H Q) : PG X e t' := ⟨fun pins s σ H v u Q I r q => h.run pins s σ H v u Q I r (f v σ H Q q)⟩
theorem pgs_imp {X : Cx} {e : List Expr} {t t' : TGs} (h : PGs X e t) (f : ∀ v σ H Q, t' v σ H Q → t v σ H Q) : PGs X e t' := ⟨fun pins s σ H v u Q I r q => h.run pins s σ H v u Q I r (f v σ H Q q)⟩
theorem ps_imp {X : Cx} {e : Stmt} {t t' : TS} (h : PS X e t) (f : ∀ D σ H, t' D σ H → t D σ H) : PS X e t' := ⟨fun pins s σ H D I q => h.run pins s σ H D I (f D σ H q)⟩
theorem pss_imp {X : Cx} {e : List Stmt} {t t' : TS} (h : PSs X e t) (f : ∀ D σ H, t' D σ H → t D σ H) : PSs X e t' := ⟨fun pins s σ H D I q => h.run pins s σ H D I (f D σ H q)⟩
theorem asg_star {x : Expr} {xs : List Expr} {env : PySem.Env} (h : noStar x = true) : assignEach (x :: xs) env = (false, assign x env) :: assignEach xs env := by
  cases x <;> first | rfl | (simp [noStar] at h)
variable {K : Kc} {G : Gs} {C : Cs} {N : List Str}
mutual
theorem sG : ∀ (tg : Tg) {sc : Scope} {fn : Str → Bool} {X : Cx} {x : Expr}, Stat K G C N sc fn X → chkTg G N sc fn tg x = true → PG X x (gW K C tg)
  | .name i, sc, fn, X, x, st, h => by
    rw [chkTg.eq_def] at h
    split at h
    case h_1 hq =>
      cases hq
      simp only [Bool.and_eq_true, decide_eq_true_eq] at h
      refine pg_imp (pg_nm st h.1 h.2) fun v σ H Q ⟨ρ, s, d, hρ, hs, r, q⟩ => ?_
      simp only [wpTg] at q
      exact q _ H Keep.refl (hρ.set r) hs
    all_goals first
      | (next hq => cases hq; done)
      | cases h
  | .own i, sc, fn, X, x, st, h => by
    rw [chkTg.eq_def] at h
    split at h
    case h_2 hq =>
      cases hq
      simp only [Bool.and_eq_true, decide_eq_true_eq] at h
      refine pg_imp (pg_nm st h.1 h.2) fun v σ H Q ⟨ρ, s, d, hρ, hs, r, q⟩ => ?_
      simp only [wpTg] at q
      exact q _ H Keep.refl (hρ.set r) hs
    all_goals first
      | (next hq => cases hq; done)
      | cases h
  | .tup ts, sc, fn, X, x, st, h => by
    rw [chkTg.eq_def] at h
    split at h
    case h_3 hq =>
      cases hq
      obtain ⟨h1, h2, h3⟩ := sGs ts st h
      refine pg_imp (pg_tup st.calm h1 h2 h3) fun v σ H Q ⟨ρ, s, d, hρ, hs, r, q⟩ => ?_
      simp only [wpTg] at q
      split at q
      · next ds =>
        obtain ⟨a, vs, rfl, sq, rr⟩ := r.tupI
        exact ⟨a, vs, rfl, by rw [← st.kk]; exact sq.t, by rw [← rr.length]; exact q.1, ρ, s, ds, hρ, hs, rr, q.2⟩
      · exact q.elim
    all_goals first
      | (next hq => cases hq; done)
      | cases h
  | .sub o i, sc, fn, X, x, st, h => by
    rw [chkTg.eq_def] at h
    split at h
    case h_4 y _ hq =>
      cases hq
      simp only [Bool.and_eq_true] at h
      refine pg_imp (pg_sub (sE o st h.1.2) (sE i st h.2) (set_ok st.kk st.un) fun v => ?_) fun v σ H Q ⟨ρ, s, d, hρ, hs, r, q⟩ => ?_
      · have h0 := h.1.1
        cases y <;> first | rfl | (simp [noSlice] at h0)
      · simp only [wpTg] at q
        refine tE.mk st.mono hρ hs q fun d1 s1 v1 H1 k1 r1 hs1 q1 => tE.mk st.mono (hρ.keep k1) hs1 q1 fun d2 s2 v2 H2 k2 r2 hs2 q2 => ?_
        refine ⟨d1, d2, d, s2, RepD.keep k2 _ _ r1, r2, RepD.keep (k1.trans k2) _ _ r, hs2, wpSet_mono (fun s3 q3 H3 k3 hs3 => ?_) q2⟩
        exact q3 σ H3 ((k1.trans k2).trans k3) (hρ.keep ((k1.trans k2).trans k3)) hs3
    all_goals first
      | (next hq => cases hq; done)
      | cases h
theorem sGs : ∀ (tgs : List Tg) {sc : Scope} {fn : Str → Bool} {X : Cx} {xs : List Expr}, Stat K G C N sc fn X → chkTgs G N sc fn tgs xs = true → PGs X xs (gWs K C tgs) ∧ (assignEach xs X.env).length = tgs.length ∧ (assignEach xs X.env).findIdx? (·.1) = none
  | [], _, _, _, [], st, _ => by
    refine ⟨pgs_imp pgs_nil fun vs σ H Q ⟨ρ, s, ds, hρ, hs, r, q⟩ => ?_, rfl, rfl⟩
    cases ds with
    | nil =>
      cases r
      simp only [wpTgs] at q
      exact ⟨rfl, q σ H Keep.refl hρ hs⟩
    | cons d ds => simp only [wpTgs] at q
  | tg :: tgs, sc, fn, X, x :: xs, st, h => by
    simp only [chkTgs, Bool.and_eq_true] at h
    obtain ⟨h1, h2, h3⟩ := sGs tgs st h.2
    refine ⟨pgs_imp (pgs_cons (sG tg st h.1.2) h1 (by rw [asg_star h.1.1]; rfl)) fun vs σ H Q ⟨ρ, s, ds, hρ, hs, r, q⟩ => ?_, ?_, ?_⟩
    · cases ds with
      | nil => simp only [wpTgs] at q
      | cons d ds =>
        simp only [RepDs] at r
        obtain ⟨v, vr, rfl, r1, r2⟩ := r
        simp only [wpTgs] at q
        refine ⟨v, vr, rfl, ρ, s, d, hρ, hs, r1, wpTg_mono st.mono tg (fun ρ1 s1 q1 σ1 H1 k1 hρ1 hs1 => ?_) q⟩
        exact ⟨ρ1, s1, ds, hρ1, hs1, RepDs.keep k1 _ _ r2, wpTgs_mono st.mono tgs (fun ρ2 s2 q2 σ2 H2 k2 a b => q2 σ2 H2 (k1.trans k2) a b) q1⟩
    · rw [asg_star h.1.1, List.length_cons, h2]; rfl
    · rw [asg_star h.1.1, List.findIdx?_cons, h3]; rfl
  | [], _, _, _, _ :: _, _, h => by simp [chkTgs] at h
  | _ :: _, _, _, _, [], _, h => by simp [chkTgs] at h
end
end PL
end

section
set_option Elab.async false
set_option linter.all false
set_option maxRecDepth 100000
set_option maxHeartbeats 4000000
namespace PL
open PySem PySem.Spec PyProof.Rows L2

/-! ## statements -/
def dsOf (K : Kc) (H : Hp) (D : Ends) : Ds :=
  ⟨fun ρ' s' => ∀ σ' H', Keep K H H' → RepE K H' ρ' σ' → RepS K H' s' → D.nx σ' H', fun d s' => ∀ v H', Keep K H H' → RepD K H' d v → RepS K H' s' → D.rt v H',
   fun ρ' s' => ∀ σ' H', Keep K H H' → RepE K H' ρ' σ' → RepS K H' s' → D.bk σ' H', fun ρ' s' => ∀ σ' H', Keep K H H' → RepE K H' ρ' σ' → RepS K H' s' → D.ct σ' H'⟩
theorem dsOf.at {K : Kc} {H H1 : Hp} {D : Ends} (k : Keep K H H1) : DsLe (dsOf K H D) (dsOf K H1 D) :=
  ⟨fun ρ s h σ' H' k' => h σ' H' (k.trans k'), fun d s h v H' k' => h v H' (k.trans k'), fun ρ s h σ' H' k' => h σ' H' (k.trans k'), fun ρ s h σ' H' k' => h σ' H' (k.trans k')⟩
theorem DsLe.refl {D : Ds} : DsLe D D := ⟨fun _ _ h => h, fun _ _ h => h, fun _ _ h => h, fun _ _ h => h⟩
def tS (K : Kc) (C : Cs) (x : PL.St) : TS := fun D σ H => ∃ ρ s, RepE K H ρ σ ∧ RepS K H s ∧ wpS C x (dsOf K H D) ρ s
def tSs (K : Kc) (C : Cs) (x : List PL.St) : TS := fun D σ H => ∃ ρ s, RepE K H ρ σ ∧ RepS K H s ∧ wpSs C x (dsOf K H D) ρ s
section
variable {X : Cx} {K : Kc} {G : Gs} {C : Cs} {N : List Str} {sc : Scope} {fn : Str → Bool}
theorem aug_ok (op : Op) (h : op = .add ∨ op = .sub) : PIp X (opOf op) (rV K (wpAug op)) := by
  rcases h with rfl | rfl
  · intro pins s σ H x y v u Q I rx ry ⟨d, e, t, rd, re, hs, h⟩
    unfold wpAug at h
    split at h
    · cases rd; cases re
      exact ip_add pins s σ H _ _ v u Q I rx ry ⟨_, _, rfl, rfl, h.int hs⟩
    · next e => cases e
    · exact h.elim
  · intro pins s σ H x y v u Q I rx ry ⟨d, e, t, rd, re, hs, h⟩
    unfold wpAug at h
    split at h
    · next e => cases e
    · cases rd; cases re
      exact ip_sub pins s σ H _ _ v u Q I rx ry ⟨_, _, rfl, rfl, h.int hs⟩
    · exact h.elim
theorem sw_no {t : Option Expr} {v : Expr} {l : Nat} {env : PySem.Env} (h : notComp v = true) : swapsWith v t l env = pure false := by
  cases v <;> first | rfl | (simp [notComp] at h)
/-- a value that is no comprehension told straight -/
theorem sw_asg (st : Stat K G C N sc fn X) {t v : Expr} {l : Nat} (h1 : ¬ swC sc t v = true) (h2 : ¬ setDict v = true) : swapsWithSole [t] v l X.env = pure false := by
  show swapsWith v (some t) l X.env = pure false
  by_cases hn : notComp v = true
  · exact sw_no hn
  · cases v <;> first | exact absurd rfl hn | exact absurd rfl h2 | skip
    next e gs scope p2 =>
    cases t <;> first | rfl | skip
    next y py =>
    have hk : X.env.blockKind = .function := by unfold Env.blockKind; rw [st.sC, st.kind]; rfl
    have hl : X.env.kindOf y = sc.names.lookup y := by show X.env.scope.names.lookup y = _; rw [st.sC]
    unfold swapsWith
    simp only [hk, hl, Expr.pos]
    simp only [swC, Bool.and_eq_true, decide_eq_true_eq, not_and] at h1
    have : ((sc.names.lookup y == some .local) && (py.line == p2.line) && !(scope.names.any fun (n, k) => n == y && (k == .local || k == .cell))) = false := by
      rw [Bool.and_eq_false_iff, Bool.and_eq_false_iff]
      by_cases a1 : sc.names.lookup y = some .local
      · by_cases a2 : (py.line == p2.line) = true
        · have := h1 ⟨a1, a2⟩
          exact .inr (by simpa only [Bool.not_eq_true] using this)
        · exact .inl (.inr (by simpa using a2))
      · exact .inl (.inl (by simpa using a1))
    show pure ((ScopeKind.function == ScopeKind.function && (sc.names.lookup y == some .local) && (py.line == p2.line)) && !(scope.names.any fun (n, k) => n == y && (k == .local || k == .cell))) = pure false
    rw [show (ScopeKind.function == ScopeKind.function) = true from rfl, Bool.true_and, this]
theorem s_asg (st : Stat K G C N sc fn X) {tg : Tg} {e : E} {t v : Expr} {p : Pos} (hg : PG X t (gW K C tg)) (he : PE X v (tE K C e)) (h1 : ¬ swC sc t v = true) (h2 : ¬ setDict v = true) (h3 : swapR sc t v = some none) (h4 : noStar t = true) : PS X (.Assign [t] v p) (tS K C (.asg tg e)) :=
  ps_imp (ps_asg he hg (sw_asg st h1 h2) (swapR_ok st.sC st.kind h3) (by rw [asg_star h4]; rfl)) fun D σ H ⟨ρ, s, hρ, hs, h⟩ => by
    simp only [wpS] at h
    refine tE.mk st.mono hρ hs h fun d s1 v1 H1 k1 r1 hs1 h1 => ?_
    exact ⟨ρ, s1, d, hρ.keep k1, hs1, r1, wpTg_mono st.mono tg (fun ρ2 s2 h2 σ' H' k' a b => h2 σ' H' (k1.trans k') a b) h1⟩
theorem s_aug (st : Stat K G C N sc fn X) {i : Nat} {op : Op} {e : E} {x : Str} {v : Expr} {p p2 : Pos} (hop : op = .add ∨ op = .sub) (h1 : N[i]? = some x) (h2 : locB sc fn x = true) (he : PE X v (tE K C e)) : PS X (.AugAssign (.Name x p2) (opOf op) v p) (tS K C (.aug i op e)) := by
  obtain ⟨l, f⟩ := loc_of h2
  refine ps_imp (ps_aug (by rw [st.nN]; exact st.nd) (by rw [st.nN]; exact h1) (by rw [st.sC]; exact l) he (aug_ok (K := K) op hop) (by rw [st.fN, st.sC]; exact f)) fun D σ H ⟨ρ, s, hρ, hs, h⟩ => ?_
  simp only [wpS] at h
  split at h
  · next d e0 =>
    obtain ⟨v0, e1, r0⟩ := hρ.2 i d (getD_some e0)
    refine ⟨v0, e1, tE.mk st.mono hρ hs h fun d1 s1 v1 H1 k1 r1 hs1 q1 => ?_⟩
    refine ⟨d, d1, s1, RepD.keep k1 _ _ r0, r1, hs1, wpAug_mono (fun d2 s2 q2 v2 H2 k2 r2 hs2 => ?_) q1⟩
    exact q2 _ H2 (k1.trans k2) ((hρ.keep (k1.trans k2)).set r2) hs2
  · exact h.elim
theorem s_augS (st : Stat K G C N sc fn X) {o i e : E} {op : Op} {x y v : Expr} {p p2 : Pos} (hop : op = .add ∨ op = .sub) (hn : noSlice y = true) (ho : PE X x (tE K C o)) (hi : PE X y (tE K C i)) (he : PE X v (tE K C e)) : PS X (.AugAssign (.Subscript x y p2) (opOf op) v p) (tS K C (.augS o i op e)) := by
  refine ps_imp (ps_augS ho hi (get_ok st.kk st.un) he (aug_ok (K := K) op hop) (set_ok st.kk st.un) (fun ov iv new => ?_)) fun D σ H ⟨ρ, s, hρ, hs, h⟩ => ?_
  · cases y <;> first | rfl | (simp [noSlice] at hn)
  · simp only [wpS] at h
    refine tE.mk st.mono hρ hs h fun d1 s1 v1 H1 k1 r1 hs1 q1 => tE.mk st.mono (hρ.keep k1) hs1 q1 fun d2 s2 v2 H2 k2 r2 hs2 q2 => ?_
    refine ⟨d1, d2, s2, RepD.keep k2 _ _ r1, r2, hs2, wpGet_mono (fun d3 s3 q3 v3 H3 k3 r3 hs3 => ?_) q2⟩
    have kk := (k1.trans k2).trans k3
    refine tE.mk st.mono (hρ.keep kk) hs3 q3 fun d4 s4 v4 H4 k4 r4 hs4 q4 => ?_
    refine ⟨d3, d4, s4, RepD.keep k4 _ _ r3, r4, hs4, wpAug_mono (fun d5 s5 q5 v5 H5 k5 r5 hs5 => ?_) q4⟩
    have k35 := (k3.trans k4).trans k5
    refine ⟨d1, d2, d5, s5, RepD.keep (k2.trans k35) _ _ r1, RepD.keep k35 _ _ r2, r5, hs5, wpSet_mono (fun s6 q6 H6 k6 hs6 => ?_) q5⟩
    have k06 := ((kk.trans k4).trans k5).trans k6
    exact q6 σ H6 k06 (hρ.keep k06) hs6
theorem s_par (st : Stat K G C N sc fn X) {tgs : List Tg} {es : List E} {ts vs : List Expr} {k k2 : Nat} {p p2 p3 : Pos} {ns : List Str} (hsw : swapR sc (.Tuple ts k p2) (.Tuple vs k2 p3) = some (some ns)) (hb : parB N sc tgs ts = true) (hns : ns = nmsOf ts) (hl : es.length = tgs.length) (hlv : es.length = vs.length) (ha : PA X vs (tEs K C es)) :
    PS X (.Assign [.Tuple ts k p2] (.Tuple vs k2 p3) p) (tS K C (.asg (.tup tgs) (.tup es))) := by
  have hw := swapR_ok st.sC st.kind hsw
  have nd : X.N.Nodup := by rw [st.nN]; exact st.nd
  unfold parB at hb
  split at hb
  · next i j x px y py =>
    simp only [Bool.and_eq_true, decide_eq_true_eq] at hb
    obtain ⟨⟨⟨⟨h1, h2⟩, h3⟩, h4⟩, h5⟩ := hb
    match vs, hlv with
    | [a, b], hlv =>
      subst hns
      refine ps_imp (ps_par st.calm nd (by rw [st.nN]; exact h1) (by rw [st.nN]; exact h2) h3 (by rw [st.sC]; exact h4) (by rw [st.sC]; exact h5) ha hw rfl) fun D σ H ⟨ρ, s, hρ, hs, h⟩ => ?_
      simp only [wpS, wpE] at h
      refine tEs.mk st.mono hρ hs h fun ds s1 us H1 k1 r1 hs1 q => ?_
      simp only [wpTg] at q
      obtain ⟨q0, q⟩ := q
      match ds, q with
      | [d1, d2], q =>
        obtain ⟨u1, u2, rfl, r2, r3⟩ := r1.two_inv
        simp only [wpTgs, wpTg] at q
        exact ⟨u1, u2, rfl, q _ H1 k1 (((hρ.keep k1).set r2).set r3) hs1⟩
    | [], hlv => simp [hl] at hlv
    | [_], hlv => simp [hl] at hlv
    | _ :: _ :: _ :: _, hlv => simp [hl] at hlv
  · next i j l x px y py z pz =>
    simp only [Bool.and_eq_true, decide_eq_true_eq] at hb
    obtain ⟨⟨⟨⟨⟨⟨⟨⟨h1, h2⟩, h3⟩, h4⟩, h5⟩, h6⟩, h7⟩, h8⟩, h9⟩ := hb
    match vs, hlv with
    | [a, b, c], hlv =>
      subst hns
      refine ps_imp (ps_par3 st.calm nd (by rw [st.nN]; exact h1) (by rw [st.nN]; exact h2) (by rw [st.nN]; exact h3) h4 h5 h6 (by rw [st.sC]; exact h7) (by rw [st.sC]; exact h8) (by rw [st.sC]; exact h9) ha hw rfl) fun D σ H ⟨ρ, s, hρ, hs, h⟩ => ?_
      simp only [wpS, wpE] at h
      refine tEs.mk st.mono hρ hs h fun ds s1 us H1 k1 r1 hs1 q => ?_
      simp only [wpTg] at q
      obtain ⟨q0, q⟩ := q
      match ds, q with
      | [d1, d2, d3], q =>
        simp only [RepDs] at r1
        obtain ⟨u1, t1, rfl, r2, u2, t2, rfl, r3, u3, t3, rfl, r4, rfl⟩ := r1
        simp only [wpTgs, wpTg] at q
        exact ⟨u1, u2, u3, rfl, q _ H1 k1 ((((hρ.keep k1).set r2).set r3).set r4) hs1⟩
    | [], hlv => simp [hl] at hlv
    | [_], hlv => simp [hl] at hlv
    | [_, _], hlv => simp [hl] at hlv
    | _ :: _ :: _ :: _ :: _, hlv => simp [hl] at hlv
  · cases hb
theorem s_comp (st : Stat K G C N sc fn X) {el it : E} {cond : Option E} {tg own : List Nat} {tup : Bool} {e t i : Expr} {ifs : List Expr} {scope : Scope} {ow : List (Str × Nat)} {p p2 py : Pos} {y : Str} {j : Nat} (hsw : swC sc (.Name y py) (.ListComp e [⟨t, i, ifs, 0⟩] scope p2) = true) (hj : N[j]? = some y)
    (hb : blkC N sc scope ow = true) (how : ow.map (·.2) = own) (hsub : ∀ i ∈ tg, i ∈ own) (htg : tgC N (relS scope sc) (fnB scope) tg tup t = true) (hi : PI X t i (tI K C it)) (hfs : ∀ x, foldedSetIterable i X.env x = pure x)
    (hc : ∀ X', Stat K G C N (relS scope sc) (fnB scope) X' → PTs X' ifs (tC' K C cond)) (he : ∀ X', Stat K G C N (relS scope sc) (fnB scope) X' → PE X' e (tE K C el)) : PS X (.Assign [.Name y py] (.ListComp e [⟨t, i, ifs, 0⟩] scope p2) p) (tS K C (.asg (.name j) (.comp el tg tup it cond own))) := by
  have ok : BlkOk X.N X.env.scope scope ow := by rw [st.nN, st.sC]; exact blkOk_by hb
  simp only [swC, Bool.and_eq_true, decide_eq_true_eq, Bool.not_eq_true'] at hsw
  obtain ⟨⟨a1, a2⟩, a3⟩ := hsw
  refine ps_imp (ps_setLc (i := j) (g := gOf X.K tg tup) st.calm (by rw [st.nN]; exact st.nd) (by rw [st.nN]; exact hj) (by rw [st.sC]; exact a1) (sw_true (by rw [st.sC]; exact st.kind) (by rw [st.sC]; exact a1) a2 a3) hi ok (fun s H C0 cl fp => pg_of (blk_stat st ok.kind s H C0 cl fp) htg) (fun s H C0 cl fp => hc _ (blk_stat st ok.kind s H C0 cl fp)) (fun s H C0 cl fp => he _ (blk_stat st ok.kind s H C0 cl fp)) hfs) fun D σ H h => ?_
  rw [how]
  refine lc_imp st hsub σ H _ ?_
  obtain ⟨ρ, s, hρ, hs, h⟩ := h
  simp only [wpS] at h
  refine tE.mk st.mono hρ hs h fun d s1 v1 H1 k1 r1 hs1 q => ?_
  simp only [wpTg] at q
  exact q _ H1 k1 ((hρ.keep k1).set r1) hs1
end
end PL
end

section
set_option Elab.async false
set_option linter.all false
set_option maxRecDepth 100000
set_option maxHeartbeats 4000000
namespace PL
open PySem PySem.Spec PyProof.Rows L2

section
variable {X : Cx} {K : Kc} {G : Gs} {C : Cs} {N : List Str} {sc : Scope} {fn : Str → Bool}
theorem s_ife (st : Stat K G C N sc fn X) {c : E} {a b : List PL.St} {z : Expr} {x y : List Stmt} {p : Pos} (hc : PT X z (tT K C c)) (ha : PSs X x (tSs K C a)) (hb : PSs X y (tSs K C b)) : PS X (.If z x y p) (tS K C (.ife c a b)) :=
  ps_imp (ps_if hc ha hb) fun D σ H ⟨ρ, s, hρ, hs, h⟩ => by
    simp only [wpS] at h
    refine tT.mk st.mono hρ hs h fun t s1 H1 k1 hs1 h1 => ?_
    cases t
    · rw [if_neg (by simp)] at h1 ⊢
      exact ⟨ρ, s1, hρ.keep k1, hs1, wpSs_mono st.mono b (dsOf.at k1) h1⟩
    · rw [if_pos rfl] at h1 ⊢
      exact ⟨ρ, s1, hρ.keep k1, hs1, wpSs_mono st.mono a (dsOf.at k1) h1⟩
theorem s_for (st : Stat K G C N sc fn X) {tg : Tg} {it : E} {body : List PL.St} {t i : Expr} {b : List Stmt} {p : Pos} (hg : PG X t (gW K C tg)) (hi : PI X t i (tI K C it)) (hfs : ∀ x, foldedSetIterable i X.env x = pure x) (hb : PSs X b (tSs K C body)) : PS X (.For t i b [] p) (tS K C (.for tg it body)) := by
  refine ps_imp (ps_for (by rw [st.xe]; exact PassesOwn.never) st.calm hi hg hb hfs) fun D σ H ⟨ρ, s, hρ, hs, h⟩ => ?_
  simp only [wpS] at h
  refine ⟨ρ, s, hρ, hs, wpI_mono st.mono it (fun chk xs s1 h1 J H1 k1 hs1 hJ => ?_) h⟩
  generalize hturn : (fun (x : PL.D) (ρ : Vs) (s : PL.S) (k : Vs → PL.S → Prop) => wpTg C tg x ρ s fun ρ2 s2 => wpSs C body ⟨k, (dsOf K H D).rt, (dsOf K H D).nx, k⟩ ρ2 s2) = turn at h1
  refine ⟨fun j m σ2 H2 => m = xs.length - j ∧ j ≤ xs.length ∧ ∃ ρ2 s2, Keep K H1 H2 ∧ RepE K H2 ρ2 σ2 ∧ RepS K H2 s2 ∧ forL chk turn (dsOf K H D).nx (xs.drop j) ρ2 s2, ⟨xs.length, by simp, Nat.zero_le _, ρ, s1, Keep.refl, hρ.keep k1, hs1, h1⟩, ?_⟩
  rintro j m σ2 H2 ⟨rfl, hj, ρ2, s2, k2, hρ2, hs2, hc⟩
  by_cases hlt : j < xs.length
  · have ex : xs[j]? = some xs[j] := List.getElem?_eq_getElem hlt
    rw [List.drop_eq_getElem_cons hlt] at hc
    simp only [forL] at hc
    obtain ⟨hchk, hc⟩ := hc
    obtain ⟨go, yl⟩ := hJ.go j _ H2 s2 k2 hs2 hchk ex
    refine .inr ⟨go, fun σ3 H3 => ∃ ρ3 s3, Keep K H1 H3 ∧ RepE K H3 ρ3 σ3 ∧ RepS K H3 s3 ∧ forL chk turn (dsOf K H D).nx (xs.drop (j + 1)) ρ3 s3, fun σ3 H3 ⟨ρ3, s3, a1, a2, a3, a4⟩ => ⟨_, by omega, rfl, hlt, ρ3, s3, a1, a2, a3, a4⟩, fun x H3 hy => ?_⟩
    obtain ⟨rx, k3, hs3⟩ := yl x H3 hy
    rw [← hturn] at hc
    refine ⟨ρ2, s2, xs[j], hρ2.keep k3, hs3, rx, wpTg_mono st.mono tg (fun ρ4 s4 q4 σ4 H4 k4 hρ4 hs4 => ?_) hc⟩
    refine ⟨ρ4, s4, hρ4, hs4, wpSs_mono st.mono body ?_ q4⟩
    have kk : Keep K H H4 := ((k1.trans k2).trans k3).trans k4
    have aft : ∀ ρ' s', (∃ s0 : PL.S, s0.le s' ∧ forL chk turn (dsOf K H D).nx (xs.drop (j + 1)) ρ' s0) → ∀ σ' H', Keep K H4 H' → RepE K H' ρ' σ' → RepS K H' s' → ∃ ρ3 s3, Keep K H1 H' ∧ RepE K H' ρ3 σ' ∧ RepS K H' s3 ∧ forL chk turn (dsOf K H D).nx (xs.drop (j + 1)) ρ3 s3 := fun ρ' s' ⟨s0, l0, f0⟩ σ' H' k' a b => ⟨ρ', s0, ((k2.trans k3).trans k4).trans k', a, b.le l0, f0⟩
    rw [← hturn] at aft
    exact ⟨fun ρ' s' q => by rw [← hturn]; exact aft ρ' s' q, fun d s' q v H' k' => q v H' (kk.trans k'), fun ρ' s' q σ' H' k' => q σ' H' (kk.trans k'), fun ρ' s' q => by rw [← hturn]; exact aft ρ' s' q⟩
  · have e : j = xs.length := by omega
    subst e
    rw [List.drop_eq_nil_of_le (Nat.le_refl _)] at hc
    simp only [forL] at hc
    exact .inl ⟨hJ.stop H2 s2 k2 hs2 hc.1, hc.2 σ2 H2 (k1.trans k2) hρ2 hs2⟩
theorem s_while (st : Stat K G C N sc fn X) {c : E} {body : List PL.St} {z : Expr} {b : List Stmt} {p : Pos} (hc : PT X z (tT K C c)) (hb : PSs X b (tSs K C body)) : PS X (.While z b [] p) (tS K C (.while c body)) := by
  refine ps_imp (ps_while (by rw [st.xe]; exact PassesOwn.never) hc hb) fun D σ H ⟨ρ, s, hρ, hs, h⟩ => ?_
  simp only [wpS] at h
  obtain ⟨n0, h⟩ := h
  generalize htest : (fun (ρ : Vs) (s : PL.S) (k : Bool → PL.S → Prop) => wpT C c ρ s k) = test at h
  generalize hturn : (fun (ρ : Vs) (s : PL.S) (k : Vs → PL.S → Prop) => wpSs C body ⟨k, (dsOf K H D).rt, (dsOf K H D).nx, k⟩ ρ s) = turn at h
  refine ⟨fun m σ2 H2 => ∃ ρ2 s2, Keep K H H2 ∧ RepE K H2 ρ2 σ2 ∧ RepS K H2 s2 ∧ whileL test turn (dsOf K H D).nx m ρ2 s2, ⟨n0, ρ, s, Keep.refl, hρ, hs, h⟩, ?_⟩
  rintro m σ2 H2 ⟨ρ2, s2, k2, hρ2, hs2, hw⟩
  cases m with
  | zero => exact hw.elim
  | succ m =>
    simp only [whileL] at hw
    rw [← htest] at hw
    refine tT.mk st.mono hρ2 hs2 hw fun t s3 H3 k3 hs3 h3 => ?_
    cases t
    · rw [if_neg (by simp)] at h3 ⊢
      exact h3 σ2 H3 (k2.trans k3) (hρ2.keep k3) hs3
    · rw [if_pos rfl] at h3 ⊢
      refine ⟨fun σ' H' => ∃ ρ' s', Keep K H H' ∧ RepE K H' ρ' σ' ∧ RepS K H' s' ∧ whileL test turn (dsOf K H D).nx m ρ' s', fun σ' H' q => ⟨m, Nat.lt_succ_self m, q⟩, ?_⟩
      rw [← hturn] at h3
      refine ⟨ρ2, s3, hρ2.keep k3, hs3, wpSs_mono st.mono body ?_ h3⟩
      have kk := k2.trans k3
      rw [← htest, ← hturn]
      exact ⟨fun ρ' s' ⟨s0, l0, f0⟩ σ' H' k' a b => ⟨ρ', s0, kk.trans k', a, b.le l0, f0⟩, fun d s' q v H' k' => q v H' (kk.trans k'), fun ρ' s' q σ' H' k' => q σ' H' (kk.trans k'), fun ρ' s' ⟨s0, l0, f0⟩ σ' H' k' a b => ⟨ρ', s0, kk.trans k', a, b.le l0, f0⟩⟩
theorem s_ret (st : Stat K G C N sc fn X) {e : E} {x : Expr} {p : Pos} (he : PE X x (tE K C e)) : PS X (.Return (some x) p) (tS K C (.ret e)) :=
  ps_imp (ps_ret he) fun D σ H ⟨ρ, s, hρ, hs, h⟩ => by
    simp only [wpS] at h
    exact tE.mk st.mono hρ hs h fun d s1 v1 H1 k1 r1 hs1 q => q v1 H1 k1 r1 hs1
theorem s_retN {p : Pos} : PS X (.Return none p) (tS K C .retN) :=
  ps_imp ps_retN fun D σ H ⟨ρ, s, hρ, hs, h⟩ => by
    simp only [wpS] at h
    exact h .non H Keep.refl rfl hs
theorem s_expr (st : Stat K G C N sc fn X) {e : E} {x : Expr} {p : Pos} (hn : notComp x = true) (he : PE X x (tE K C e)) : PS X (.Expr x p) (tS K C (.expr e)) :=
  ps_imp (ps_expr he (sw_no hn)) fun D σ H ⟨ρ, s, hρ, hs, h⟩ => by
    simp only [wpS] at h
    exact tE.mk st.mono hρ hs h fun d s1 v1 H1 k1 r1 hs1 q => q σ H1 k1 (hρ.keep k1) hs1
theorem next_imp {D : Ends} {σ : L2.St} {H : Hp} (h : tS K C .pass D σ H) : tNext D σ H := by
  obtain ⟨ρ, s, hρ, hs, h⟩ := h
  simp only [wpS] at h
  exact h σ H Keep.refl hρ hs
end
variable {K : Kc} {G : Gs} {C : Cs} {N : List Str}
mutual
theorem sS : ∀ (x : PL.St) {sc : Scope} {fn : Str → Bool} {X : Cx} {y : Stmt}, Stat K G C N sc fn X → chkS G N sc fn x y = true → PS X y (tS K C x)
  | .asg tg e, sc, fn, X, y, st, h => by
    rw [chkS.eq_def] at h
    split at h
    case h_1 t v p hq =>
      cases hq
      split at h
      · next hsw =>
        split at h
        · next i el ctg ctup it cond own y py e' t' i' ifs k scope p2 =>
          simp only [Bool.and_eq_true, decide_eq_true_eq, List.all_eq_true, List.contains_iff_mem] at h
          obtain ⟨⟨⟨⟨⟨⟨⟨rfl, h0⟩, h1⟩, h2⟩, h3⟩, h4⟩, h5⟩, h6⟩ := h
          split at h1
          · next ow how =>
            obtain ⟨i1, i2⟩ := sI it (tg := t') st h4
            exact s_comp st hsw h0 h1 (own_of how) h2 h3 i1 i2 (fun X' st' => sC cond st' h5) (fun X' st' => sE el st' h6)
          · cases h1
        · next i el ctg ctup it cond own y py e' t' i' ifs k scope p2 =>
          simp only [Bool.and_eq_true, decide_eq_true_eq, List.all_eq_true, List.contains_iff_mem] at h
          obtain ⟨⟨⟨⟨⟨⟨⟨rfl, h0⟩, h1⟩, h2⟩, h3⟩, h4⟩, h5⟩, h6⟩ := h
          split at h1
          · next ow how =>
            obtain ⟨i1, i2⟩ := sI it (tg := t') st h4
            refine ps_imp (s_comp st hsw h0 h1 (own_of how) h2 h3 i1 i2 (fun X' st' => sC cond st' h5) (fun X' st' => sE el st' h6)) fun D σ H ⟨ρ, s, hρ, hs, q⟩ => ⟨ρ, s, hρ, hs, ?_⟩
            simpa only [wpS, wpTg] using q
          · cases h1
        · cases h
      · next hsw =>
        split at h
        · cases h
        · next hsd =>
          split at h
          · next hr =>
            simp only [Bool.and_eq_true] at h
            exact s_asg st (sG tg st h.1.2) (sE e st h.2) hsw hsd hr h.1.1
          · next ns hr =>
            split at h
            · simp only [Bool.and_eq_true, decide_eq_true_eq] at h
              obtain ⟨⟨⟨⟨h1, h2⟩, h3⟩, h4⟩, h5⟩ := h
              exact s_par st hr h1 h2 h3 (chkEs_len h5) (sEs _ st h4 h5).pa
            · cases h
          · cases h
    all_goals first
      | (next hq => cases hq; done)
      | cases h
  | .aug i op e, sc, fn, X, y, st, h => by
    rw [chkS.eq_def] at h
    split at h
    case h_2 hq =>
      cases hq
      simp only [Bool.and_eq_true, decide_eq_true_eq] at h
      obtain ⟨⟨⟨⟨h1, h2⟩, rfl⟩, h4⟩, h5⟩ := h
      exact s_aug st h4 h1 h2 (sE e st h5)
    all_goals first
      | (next hq => cases hq; done)
      | cases h
  | .augS o i e op, sc, fn, X, y, st, h => by
    rw [chkS.eq_def] at h
    split at h
    case h_3 hq =>
      cases hq
      simp only [Bool.and_eq_true, decide_eq_true_eq] at h
      obtain ⟨⟨⟨⟨⟨h1, rfl⟩, h3⟩, h4⟩, h5⟩, h6⟩ := h
      exact s_augS st h3 h1 (sE _ st h4) (sE _ st h5) (sE _ st h6)
    all_goals first
      | (next hq => cases hq; done)
      | cases h
  | .ife c a b, sc, fn, X, y, st, h => by
    rw [chkS.eq_def] at h
    split at h
    case h_4 hq =>
      cases hq
      simp only [Bool.and_eq_true] at h
      exact s_ife st (sT c st h.1.1) (sSs a st h.1.2) (sSs b st h.2)
    all_goals first
      | (next hq => cases hq; done)
      | cases h
  | .for tg it body, sc, fn, X, y, st, h => by
    rw [chkS.eq_def] at h
    split at h
    case h_5 t i b p hq =>
      cases hq
      simp only [Bool.and_eq_true] at h
      obtain ⟨i1, i2⟩ := sI it (tg := t) st h.1.2
      exact s_for st (sG tg st h.1.1) i1 i2 (sSs body st h.2)
    all_goals first
      | (next hq => cases hq; done)
      | cases h
  | .while c body, sc, fn, X, y, st, h => by
    rw [chkS.eq_def] at h
    split at h
    case h_6 hq =>
      cases hq
      simp only [Bool.and_eq_true] at h
      exact s_while st (sT c st h.1) (sSs body st h.2)
    all_goals first
      | (next hq => cases hq; done)
      | cases h
  | .ret e, sc, fn, X, y, st, h => by
    rw [chkS.eq_def] at h
    split at h
    case h_7 hq =>
      cases hq
      exact s_ret st (sE e st h)
    all_goals first
      | (next hq => cases hq; done)
      | cases h
  | .retN, sc, fn, X, y, st, h => by
    rw [chkS.eq_def] at h
    split at h
    case h_8 hq => exact s_retN
    all_goals first
      | (next hq => cases hq; done)
      | cases h
  | .expr e, sc, fn, X, y, st, h => by
    rw [chkS.eq_def] at h
    split at h
    case h_9 hq =>
      cases hq
      simp only [Bool.and_eq_true] at h
      exact s_expr st h.1 (sE e st h.2)
    all_goals first
      | (next hq => cases hq; done)
      | cases h
  | .pass, sc, fn, X, y, st, h => by
    rw [chkS.eq_def] at h
    split at h
    case h_10 hq => exact ps_imp ps_pass fun D σ H q => next_imp q
    case h_11 hq => exact ps_imp ps_doc fun D σ H q => next_imp q
    all_goals first
      | (next hq => cases hq; done)
      | cases h
  | .brk, sc, fn, X, y, st, h => by
    rw [chkS.eq_def] at h
    split at h
    case h_12 hq =>
      refine ps_imp ps_break fun D σ H ⟨ρ, s, hρ, hs, h⟩ => ?_
      simp only [wpS] at h
      exact h σ H Keep.refl hρ hs
    all_goals first
      | (next hq => cases hq; done)
      | cases h
  | .cont, sc, fn, X, y, st, h => by
    rw [chkS.eq_def] at h
    split at h
    case h_13 hq =>
      refine ps_imp ps_continue fun D σ H ⟨ρ, s, hρ, hs, h⟩ => ?_
      simp only [wpS] at h
      exact h σ H Keep.refl hρ hs
    all_goals first
      | (next hq => cases hq; done)
      | cases h
theorem sSs : ∀ (xs : List PL.St) {sc : Scope} {fn : Str → Bool} {X : Cx} {ys : List Stmt}, Stat K G C N sc fn X → chkSs G N sc fn xs ys = true → PSs X ys (tSs K C xs)
  | [], _, _, _, [], _, _ => pss_imp pss_nil fun D σ H ⟨ρ, s, hρ, hs, h⟩ => by
    simp only [wpSs] at h
    exact h σ H Keep.refl hρ hs
  | x :: xs, sc, fn, X, y :: ys, st, h => by
    simp only [chkSs, Bool.and_eq_true] at h
    refine pss_imp (pss_cons (sS x st h.1) (sSs xs st h.2)) fun D σ H ⟨ρ, s, hρ, hs, q⟩ => ?_
    simp only [wpSs] at q
    have le : DsLe ⟨fun ρ' s' => wpSs C xs (dsOf K H D) ρ' s', (dsOf K H D).rt, (dsOf K H D).bk, (dsOf K H D).ct⟩ (dsOf K H { D with nx := tSs K C xs D }) :=
      ⟨fun ρ1 s1 q1 σ1 H1 k1 a b => ⟨ρ1, s1, a, b, wpSs_mono st.mono xs (dsOf.at k1) q1⟩, fun _ _ q => q, fun _ _ q => q, fun _ _ q => q⟩
    exact ⟨ρ, s, hρ, hs, wpS_mono st.mono x le q⟩
  | [], _, _, _, _ :: _, _, h => by simp [chkSs] at h
  | _ :: _, _, _, _, [], _, h => by simp [chkSs] at h
end
end PL
end

section
set_option Elab.async false
set_option linter.all false
set_option maxRecDepth 100000
set_option maxHeartbeats 4000000
namespace PL
open PySem PySem.Spec PyProof.Rows L2

/-! ## defs -/
structure DI where
  name : Str
  ps : List Str
  N : List Str
  st : Stmt
def scopeB (N ps : List Str) (sc : Scope) : Bool :=
  decide (sc.kind = .function) && !sc.isCoroutine && !sc.isGenerator && decide N.Nodup && decide (N.take ps.length = ps) &&
    (ps.all fun x => decide (sc.names.lookup x = some .local) || decide (sc.names.lookup x = some .cell)) && (sc.names.all fun y => decide (y.2 ≠ .free))
theorem scope_of {N ps : List Str} {sc : Scope} (h : scopeB N ps sc = true) : FnScope N ps sc := by
  unfold scopeB at h
  simp only [Bool.and_eq_true, decide_eq_true_eq, Bool.not_eq_true', List.all_eq_true, Bool.or_eq_true] at h
  obtain ⟨⟨⟨⟨⟨⟨h1, h2⟩, h3⟩, h4⟩, h5⟩, h6⟩, h7⟩ := h
  exact ⟨h1, h2, h3, h4, h5, h6, h7⟩
def DI.ok (G : Gs) (d : DI) (f : Fn) : Bool := decide (d.ps.length = f.np) && decide (d.N.length = f.nl) && scopeB d.N d.ps (defScope d.st) && chkSs G d.N (defScope d.st) (fun _ => true) f.body (defBody d.st)
abbrev DI.fun (d : DI) (K : PySem.W.Frag) (ad : Addr) (fd : FuncData) : Prop := FunD K d.name d.name (defArgs d.st) (defBody d.st) (defScope d.st) [] [] ad fd
/-- every def of the list stands in the text, is read as its term -/
def DefsOk (K : PySem.W.Frag) (mg : Str → Option Value) (G : Gs) (P : Prog) : Prop :=
  ∀ (i : Nat) (x : Str), G.fns[i]? = some x → ∃ (d : DI) (f : Fn) (ad : Addr) (fd : FuncData), P[i]? = some f ∧ d.name = x ∧ d.ok G f = true ∧ d.fun K ad fd ∧ mg d.name = some (.ref ad) ∧ Binds K fd d.ps []
theorem RepE.start {K : Kc} {H : Hp} {N : List Str} {f : Fn} {ds : List D} {vs : List V} (hl : N.length = f.nl) (r : RepDs K H ds vs) : RepE K H (startV f ds) (start N vs) := by
  have rl := r.length
  refine ⟨?_, fun i d e => ?_⟩
  · unfold startV L2.start
    simp only [List.length_append, List.length_map, List.length_replicate, hl, rl]
  · unfold startV at e
    by_cases hi : i < ds.length
    · rw [List.getElem?_append_left (by simpa using hi), List.getElem?_map] at e
      obtain ⟨d', e1, e2⟩ := Option.map_eq_some_iff.mp e
      cases e2
      obtain ⟨v, ev, rv⟩ := r.get e1
      refine ⟨v, ?_, rv⟩
      unfold L2.start
      rw [List.getElem?_append_left (by simp; omega), List.getElem?_map, ev]
      rfl
    · rw [List.getElem?_append_right (by simpa using hi), List.getElem?_replicate] at e
      split at e <;> cases e
theorem retD_ds {K : Kc} {H : Hp} {Q : VK} : DsLe (retD (PQ K H Q)) (dsOf K H { nx := fun _ H' => Q .non H', rt := Q }) :=
  ⟨fun ρ s ⟨s0, l, q⟩ σ' H' k a b => q .non H' k rfl (b.le l), fun d s ⟨s0, l, q⟩ v H' k r b => q v H' k r (b.le l), fun ρ s h => h.elim, fun ρ s h => h.elim⟩
theorem fn_all {K : Kc} {G : Gs} {P : Prog} {prog : Program} {w : World} {mg : Str → Option Value} {base : Heap} (hD : DefsOk K.K mg G P) (hfree : ∀ x ∈ G.free, mg x = none) : ∀ (k i : Nat) (d : DI) (f : Fn) (ad : Addr) (fd : FuncData),
    P[i]? = some f → d.ok G f = true → d.fun K.K ad fd → FnOk prog w K.K mg base CX0 k ad fd d.ps (spC K (wpF P k) i)
  | 0, i, d, f, ad, fd, hf, hok, F => ⟨fun vs H Q E ⟨ds, s, r, hs, h⟩ => by simp only [wpF] at h, fun A outer s H args us vs Q E _ _ _ _ ⟨ds, s', r, hs, h⟩ => by simp only [wpF] at h⟩
  | k + 1, i, d, f, ad, fd, hf, hok, F => by
    unfold DI.ok at hok
    simp only [Bool.and_eq_true, decide_eq_true_eq] at hok
    obtain ⟨⟨⟨h1, h2⟩, h3⟩, h4⟩ := hok
    have S := scope_of h3
    refine FunD.ok F S (fun vs H Q E ⟨ds, s, r, hs, h⟩ => ?_) (fun cdv A outer s H vs Q E hr ⟨ds, t, r, hs, h⟩ => ⟨tSs K (wpF P k) f.body, PSs.nox ?_, ?_⟩)
    · simp only [wpF, hf] at h
      rw [← r.length, h.1, h1]
    · refine sSs (K := K) (G := G) (C := wpF P k) (N := d.N) (sc := defScope d.st) (fn := fun _ => true) f.body ?_ h4
      refine ⟨rfl, rfl, S.nd, rfl, rfl, S.kind, rfl, rfl, ?_, hfree, wpF_mono P k, fun j x hx => ?_⟩
      · have := hr.un
        show (A.deeper _).units + 65 < cLine
        omega
      · obtain ⟨d', f', ad', fd', e1, e2, e3, e4, e5, e6⟩ := hD j x hx
        exact ⟨ad', fd', d'.ps, k, fn_all hD hfree k j d' f' ad' fd' e1 e3 e4, hr, by rw [← e2]; exact e5, e4.kp, e6⟩
    · simp only [wpF, hf] at h
      exact ⟨startV f ds, t, RepE.start h2 r, hs, wpSs_mono (wpF_mono P k) f.body retD_ds h.2⟩
/-- the law's promise -/
def spLaw (K : PySem.W.Frag) (P : Prog) (k i : Nat) : Sp := fun vs H Q E => ∃ (a : Addr) (ns : List Int), vs = [.ref a] ∧ RoL ⟨K, a⟩ H (ns.map V.int) ∧ ns.length ≤ 63 ∧ (∀ H', Q (.bl true) H')
theorem rep_ints {K : Kc} {H : Hp} : ∀ ns : List Int, RepDs K H (ns.map D.int) (ns.map V.int)
  | [] => .nil
  | n :: ns => .cons rfl (rep_ints ns)
/-- the store at the law's entry -/
def S0 (ns : List Int) : PL.S := fun a => if a = 0 then some (.rol (ns.map D.int)) else none
theorem law_all {G : Gs} {P : Prog} {k i : Nat} {K : PySem.W.Frag} {prog : Program} {w : World} {mg : Str → Option Value} {base : Heap} (hD : DefsOk K mg G P) (hfree : ∀ x ∈ G.free, mg x = none) {d : DI} {f : Fn} {ad : Addr} {fd : FuncData} (hf : P[i]? = some f) (hok : d.ok G f = true) (F : d.fun K ad fd)
    (hps : d.ps.length = 1) (law : ∀ ns : List Int, ns.length ≤ 63 → wpF P k i [.loc 0] (S0 ns) fun v _ => v = .bl true) : FnOk prog w K mg base CX0 k ad fd d.ps (spLaw K P k i) := by
  refine ⟨fun vs H Q E ⟨a, ns, e, _⟩ => by rw [e, hps]; rfl, fun A outer s H args us vs Q E hr he hb hv ⟨a, ns, e, hro, hl, hq⟩ => ?_⟩
  subst e
  refine (fn_all (K := ⟨K, a⟩) hD hfree k i d f ad fd hf hok F).run A outer s H args us _ Q E hr he hb hv ⟨[.loc 0], S0 ns, .one rfl, fun b o e => ?_, wpF_mono P k _ _ _ _ _ (fun v s' q v' H' k' r hs' => ?_) (law ns hl)⟩
  · unfold S0 at e
    split at e
    · next h0 => subst h0; cases e; exact ⟨_, rfl, hro, rep_ints ns⟩
    · cases e
  · subst q
    cases r
    exact hq H'
end PL
end

section
set_option Elab.async false
set_option linter.all false
set_option maxRecDepth 100000
set_option maxHeartbeats 4000000
namespace PL
open PySem PySem.Spec PyProof.Rows L2

/-! ## from the head's facts to the defs -/
def DI.defD (d : DI) : He.DefD := ⟨(d.name, none), d.name, d.name, defArgs d.st, defBody d.st, defScope d.st, [], []⟩
def faOf (dis : List DI) (free : List Str) : List He.Fa := dis.map (fun d => .glo d.name) ++ free.map .free
def BindsB (d : DI) : Prop := ∀ (kV doc pm : Value) (an : Option Addr) (cdv ct : Value) (us : List Value), us.length = d.ps.length → bindArgs (PySem.W.fnOf d.name d.name (defArgs d.st) (defBody d.st) (defScope d.st) .none kV doc pm an cdv ct) ⟨us, []⟩ = pure (d.ps.zip us)
section
variable {K : PySem.W.Frag} {h : Heap} {mg : Str → Option Value} {dis : List DI} {P : Prog} {G : Gs}
theorem glo_of (X : K.In h) (Gn : h.Ns mainGlobals mg) {fn : List He.DefD} (c : He.SaysD (faOf dis G.free) fn K) {i : Nat} {d : DI} (e : dis[i]? = some d) : mg d.name = some (.ref (He.ga K d.name)) := by
  have hi : i < dis.length := (List.getElem?_eq_some_iff.mp e).1
  have e2 : (faOf dis G.free)[i]? = some (.glo d.name) := by
    unfold faOf
    rw [List.getElem?_append_left (by simpa using hi), List.getElem?_map, e]; rfl
  exact He.glo_ok X Gn (c.fact i e2)
theorem free_all (X : K.In h) (Gn : h.Ns mainGlobals mg) {fn : List He.DefD} (c : He.SaysD (faOf dis G.free) fn K) : ∀ x ∈ G.free, mg x = none := fun x hx => by
  obtain ⟨i, e⟩ := List.getElem?_of_mem hx
  have e2 : (faOf dis G.free)[dis.length + i]? = some (.free x) := by
    unfold faOf
    rw [List.getElem?_append_right (by simp), List.length_map, Nat.add_sub_cancel_left, List.getElem?_map, e]; rfl
  exact He.free_ok X Gn (c.fact _ e2)
theorem zip_at {dis : List DI} {P : Prog} {i : Nat} {d : DI} {f : Fn} (hok : (List.zipWith (fun d f => d.ok G f) dis P).all id = true) (e : dis[i]? = some d) (e2 : P[i]? = some f) : d.ok G f = true := by
  rw [List.all_eq_true] at hok
  refine hok _ (List.mem_of_getElem? (i := i) ?_)
  rw [List.getElem?_zipWith, e, e2]
  rfl
theorem fun_of (c : He.SaysD (faOf dis G.free) (dis.map DI.defD) K) {i : Nat} {d : DI} (e : dis[i]? = some d) : ∃ fd, d.fun K (He.ga K d.name) fd := by
  obtain ⟨fd, F⟩ := c.def_ i (d := d.defD) (by rw [List.getElem?_map, e]; rfl)
  exact ⟨fd, F⟩
theorem defs_of (X : K.In h) (Gn : h.Ns mainGlobals mg) (c : He.SaysD (faOf dis G.free) (dis.map DI.defD) K) (hG : G.fns = dis.map (·.name)) (hl : dis.length = P.length) (hok : (List.zipWith (fun d f => d.ok G f) dis P).all id = true) (hb : ∀ d ∈ dis, BindsB d) : DefsOk K mg G P := by
  intro i x hx
  rw [hG, List.getElem?_map] at hx
  obtain ⟨d, e, rfl⟩ := Option.map_eq_some_iff.mp hx
  have hi : i < P.length := by rw [← hl]; exact (List.getElem?_eq_some_iff.mp e).1
  obtain ⟨fd, F⟩ := fun_of c e
  exact ⟨d, P[i], He.ga K d.name, fd, List.getElem?_eq_getElem hi, rfl, zip_at hok e (List.getElem?_eq_getElem hi), F, glo_of X Gn c e, FunD.bindsN F (hb d (List.mem_of_getElem? e))⟩
/-- the law's def, from the facts -/
theorem facts_of {prog : Program} {w : World} {f0 : Addr} {k i : Nat} {d : DI} (X : K.In h) (Gn : h.Ns mainGlobals mg) (hfa : mg d.name = some (.ref f0)) (c : He.SaysD (faOf dis G.free) (dis.map DI.defD) K) (hG : G.fns = dis.map (·.name)) (hl : dis.length = P.length)
    (hok : (List.zipWith (fun d f => d.ok G f) dis P).all id = true) (hb : ∀ d ∈ dis, BindsB d) (e : dis[i]? = some d) (hps : d.ps = [("script" : Str)]) (law : ∀ ns : List Int, ns.length ≤ 63 → wpF P k i [.loc 0] (S0 ns) fun v _ => v = .bl true) :
    ∃ fd : FuncData, (∀ (s : Shared) (v : Value), BindsTo s fd ⟨[v], []⟩ [("script", v)]) ∧ ∀ base : Heap, K.In base → base.Ns mainGlobals mg → FnOk prog w K mg base CX0 k f0 fd [("script" : Str)] (spLaw K P k i) := by
  have D := defs_of X Gn c hG hl hok hb
  obtain ⟨fd, F⟩ := fun_of c e
  have hi : i < P.length := by rw [← hl]; exact (List.getElem?_eq_some_iff.mp e).1
  have e0 := hfa.symm.trans (glo_of X Gn c e)
  cases e0
  have b : ∀ (s : Shared) (us : List Value), us.length = d.ps.length → BindsTo s fd ⟨us, []⟩ (d.ps.zip us) := FunD.bindsA F (hb d (List.mem_of_getElem? e))
  refine ⟨fd, fun s v => ?_, fun base _ _ => ?_⟩
  · have := b s [v] (by rw [hps]; rfl)
    rw [hps] at this
    exact this
  · rw [← hps]
    exact law_all D (free_all X Gn c) (List.getElem?_eq_getElem hi) (zip_at hok e (List.getElem?_eq_getElem hi)) F (by rw [hps]; rfl) law
theorem law_start {k i : Nat} (H : Hp) (a : Addr) (ns : List Int) (hl : ns.length ≤ 63) (hO : Only H) (hS : SqL K H a (ns.map V.int)) : spLaw K P k i [.ref a] H (fun v _ => v = .bl true) fun _ _ _ => False :=
  ⟨a, ns, rfl, RoL.of (K := ⟨K, a⟩) hS hO, hl, fun _ => rfl⟩
end
end PL
end

section
set_option Elab.async false
set_option linter.all false
set_option maxRecDepth 100000
set_option maxHeartbeats 4000000
namespace PL
open PySem

/-! ## tools for the mathematics on wpF -/
theorem wpF_call {P : Prog} {k i : Nat} {f : Fn} {args : List D} {s : S} {Q : Post} (hf : P[i]? = some f) (hl : args.length = f.np) (h : wpSs (wpF P k) f.body (retD Q) (startV f args) s) : wpF P (k + 1) i args s Q := by
  simp only [wpF, hf]
  exact ⟨hl, h⟩
/-- more room -/
theorem wpF_up {P : Prog} {k j i : Nat} {args : List D} {s : S} {Q : Post} (hk : k ≤ j) (h : wpF P k i args s Q) : wpF P j i args s Q := by
  induction hk with
  | refl => exact h
  | step _ ih => exact wpF_le P _ _ _ _ _ _ (fun _ _ q => q) ih
theorem forL_of {chk : S → Prop} {turn : D → Vs → S → (Vs → S → Prop) → Prop} {nx : Vs → S → Prop} (hm : ∀ x ρ s (k k' : Vs → S → Prop), (∀ ρ s, k ρ s → k' ρ s) → turn x ρ s k → turn x ρ s k') (I : Nat → Vs → S → Prop) :
    ∀ {xs : List D} {ρ : Vs} {s : S}, I 0 ρ s → (∀ i x ρ s, xs[i]? = some x → I i ρ s → chk s ∧ turn x ρ s fun ρ' s' => ∃ s0 : S, s0.le s' ∧ I (i + 1) ρ' s0) → (∀ ρ s, I xs.length ρ s → chk s ∧ nx ρ s) → forL chk turn nx xs ρ s := by
  intro xs
  induction xs generalizing I with
  | nil => intro ρ s h0 hs he; exact he ρ s h0
  | cons x xs ih =>
    intro ρ s h0 hs he
    simp only [forL]
    obtain ⟨c, t⟩ := hs 0 x ρ s rfl h0
    refine ⟨c, hm _ _ _ _ _ (fun ρ' s' ⟨s0, l, h⟩ => ⟨s0, l, ?_⟩) t⟩
    exact ih (fun i => I (i + 1)) h (fun i y ρ s e h => hs (i + 1) y ρ s e h) he
/-- a for statement by an invariant -/
theorem for_of {C : Cs} (hC : CsLe C C) {tg : Tg} {it : E} {body : List St} {K : Ds} {ρ : Vs} {s : S} (h : wpI C it ρ s fun chk xs s1 => ∃ I : Nat → Vs → S → Prop, I 0 ρ s1 ∧
      (∀ i x ρ s, xs[i]? = some x → I i ρ s → chk s ∧ wpTg C tg x ρ s fun ρ2 s2 => wpSs C body ⟨fun ρ' s' => ∃ s0 : S, s0.le s' ∧ I (i + 1) ρ' s0, K.rt, K.nx, fun ρ' s' => ∃ s0 : S, s0.le s' ∧ I (i + 1) ρ' s0⟩ ρ2 s2) ∧ (∀ ρ s, I xs.length ρ s → chk s ∧ K.nx ρ s)) :
    wpS C (.for tg it body) K ρ s := by
  simp only [wpS]
  refine wpI_mono hC it (fun chk xs s1 ⟨I, h0, hs, he⟩ => ?_) h
  refine forL_of (fun x ρ s k k' hk h => ?_) I h0 hs he
  exact wpTg_mono hC tg (fun ρ2 s2 h3 => wpSs_mono hC body (show DsLe ⟨k, K.rt, K.nx, k⟩ ⟨k', K.rt, K.nx, k'⟩ from ⟨hk, fun _ _ q => q, fun _ _ q => q, hk⟩) h3) h
theorem rangeL_len {lo : Int} {n : Nat} {c : Int} : (rangeL lo n c).length = n := by simp [rangeL]
theorem rangeL_at {lo : Int} {n : Nat} {c : Int} {i : Nat} {x : D} (h : (rangeL lo n c)[i]? = some x) : i < n ∧ x = .int (lo + (i : Int) * c) := by
  unfold rangeL at h
  rw [List.getElem?_map] at h
  obtain ⟨k, e, rfl⟩ := Option.map_eq_some_iff.mp h
  obtain ⟨h1, h2⟩ := List.getElem?_eq_some_iff.mp e
  simp only [List.length_range] at h1
  rw [List.getElem_range] at h2
  subst h2
  exact ⟨h1, rfl⟩
/-- a comprehension, each turn told: g what it gives of an item -/
theorem compL_of {chk : S → Prop} {p : Nat} {turn : D → S → (Option D → S → Prop) → Prop} {Q : S → Prop} {s : S} (g : D → Option D) (hp : s p = none) : ∀ {xs acc : List D}, xs.length + acc.length ≤ lim → (∀ acc, chk (s.up p (.lst acc))) →
    (∀ x ∈ xs, ∀ (acc : List D) (k : Option D → S → Prop), (∀ t, (s.up p (.lst acc)).le t → k (g x) t) → turn x (s.up p (.lst acc)) k) → Q (s.up p (.lst (acc ++ xs.filterMap g))) → compL chk p turn Q xs acc (s.up p (.lst acc))
  | [], acc, hl, hc, ht, hq => by
    simp only [compL]
    exact ⟨hc _, S.up_same, by simpa using hq⟩
  | x :: xs, acc, hl, hc, ht, hq => by
    simp only [compL]
    simp only [List.length_cons] at hl
    refine ⟨hc _, ht x (by simp) acc _ fun t l => ?_⟩
    have e : t p = some (.lst acc) := l p _ S.up_same
    have base : s.le t := S.le_trans (S.le_up hp) l
    cases hg : g x with
    | none =>
      refine ⟨e, _, l, compL_of g hp (by omega) hc (fun y hy => ht y (by simp [hy])) ?_⟩
      simpa [List.filterMap_cons, hg] using hq
    | some y =>
      refine ⟨e, by omega, s.up p (.lst (acc ++ [y])), S.up_le base, compL_of g hp (by simp; omega) hc (fun y hy => ht y (by simp [hy])) ?_⟩
      simpa [List.filterMap_cons, hg] using hq
end PL
namespace PL
open PySem
section
variable {C : Cs} {K : Ds} {ρ : Vs} {s : S} {Q : Post}
theorem st_asg {tg : Tg} {e : E} : wpS C (.asg tg e) K ρ s = wpE C e ρ s fun d s1 => wpTg C tg d ρ s1 K.nx := by simp only [wpS]
theorem st_ife {c : E} {a b : List St} : wpS C (.ife c a b) K ρ s = wpT C c ρ s fun t s1 => if t = true then wpSs C a K ρ s1 else wpSs C b K ρ s1 := by simp only [wpS]
theorem st_ret {e : E} : wpS C (.ret e) K ρ s = wpE C e ρ s K.rt := by simp only [wpS]
theorem st_retN : wpS C .retN K ρ s = K.rt .non s := by simp only [wpS]
theorem st_expr {e : E} : wpS C (.expr e) K ρ s = wpE C e ρ s fun _ s1 => K.nx ρ s1 := by simp only [wpS]
theorem st_nil : wpSs C [] K ρ s = K.nx ρ s := by simp only [wpSs]
theorem st_cons {x : St} {r : List St} : wpSs C (x :: r) K ρ s = wpS C x ⟨fun ρ' s' => wpSs C r K ρ' s', K.rt, K.bk, K.ct⟩ ρ s := by simp only [wpSs]
theorem st_augS {o i e : E} {op : Op} : wpS C (.augS o i op e) K ρ s = wpE C o ρ s fun x s1 => wpE C i ρ s1 fun y s2 => wpGet x y s2 fun v s3 => wpE C e ρ s3 fun z s4 => wpAug op v z s4 fun u s5 => wpSet x y u s5 fun s6 => K.nx ρ s6 := by simp only [wpS]
theorem rt_of {d : D} : (∃ s0 : S, s0.le s ∧ Q d s0) → (retD Q).rt d s := fun h => h
theorem nx_of : (∃ s0 : S, s0.le s ∧ Q .non s0) → (retD Q).nx ρ s := fun h => h
theorem tg_name {i : Nat} {d : D} {k : Vs → S → Prop} : wpTg C (.name i) d ρ s k = k (ρ.set i (some d)) s := by simp only [wpTg]
end
end PL
namespace PL
open PySem
theorem rng1 {b : Int} (h : -(2 ^ 62) ≤ b ∧ b < 2 ^ 62) : rngOf [.int b] = some (0, b.toNat, 1) := by unfold rngOf; exact if_pos h
theorem rng2 {a b : Int} (h : -(2 ^ 62) ≤ a ∧ a < 2 ^ 62 ∧ -(2 ^ 62) ≤ b ∧ b < 2 ^ 62) : rngOf [.int a, .int b] = some (a, (b - a).toNat, 1) := by unfold rngOf; exact if_pos h
theorem rng3 {a b c : Int} (h : -(2 ^ 61) ≤ a ∧ a < 2 ^ 61 ∧ -(2 ^ 61) ≤ b ∧ b < 2 ^ 61 ∧ c ≠ 0 ∧ c.natAbs < 2 ^ 30) : rngOf [.int a, .int b, .int c] = some (a, (if 0 < c then (b - a + c - 1) / c else (a - b - c - 1) / (-c)).toNat, c) := by unfold rngOf; exact if_pos h
end PL
namespace PL
open PySem
section
variable {C : Cs} {ρ : Vs} {s : S} {R : ItP}
theorem I_rng1 (hC : CsLe C C) {e : E} (h : wpE C e ρ s fun y s2 => ∃ b : Int, y = .int b ∧ (-(2 ^ 62) ≤ b ∧ b < 2 ^ 62) ∧ R (fun _ => True) (rangeL 0 b.toNat 1) s2) : wpI C (.rng [e]) ρ s R := by
  simp only [wpI, wpEs]
  refine wpE_mono hC e (fun y s2 ⟨b, e1, hb, r⟩ => ?_) h
  subst e1
  rw [rng1 hb]
  exact r
theorem I_rng2 (hC : CsLe C C) {e1 e2 : E} (h : wpE C e1 ρ s fun x s1 => wpE C e2 ρ s1 fun y s2 => ∃ a b : Int, x = .int a ∧ y = .int b ∧ (-(2 ^ 62) ≤ a ∧ a < 2 ^ 62 ∧ -(2 ^ 62) ≤ b ∧ b < 2 ^ 62) ∧ R (fun _ => True) (rangeL a (b - a).toNat 1) s2) : wpI C (.rng [e1, e2]) ρ s R := by
  simp only [wpI, wpEs]
  refine wpE_mono hC e1 (fun x s1 h1 => wpE_mono hC e2 (fun y s2 ⟨a, b, q1, q2, hb, r⟩ => ?_) h1) h
  subst q1 q2
  rw [rng2 hb]
  exact r
theorem I_rng3 (hC : CsLe C C) {e1 e2 e3 : E} (h : wpE C e1 ρ s fun x s1 => wpE C e2 ρ s1 fun y s2 => wpE C e3 ρ s2 fun z s3 => ∃ a b c : Int, x = .int a ∧ y = .int b ∧ z = .int c ∧ (-(2 ^ 61) ≤ a ∧ a < 2 ^ 61 ∧ -(2 ^ 61) ≤ b ∧ b < 2 ^ 61 ∧ c ≠ 0 ∧ c.natAbs < 2 ^ 30) ∧
    R (fun _ => True) (rangeL a (if 0 < c then (b - a + c - 1) / c else (a - b - c - 1) / (-c)).toNat c) s3) : wpI C (.rng [e1, e2, e3]) ρ s R := by
  simp only [wpI, wpEs]
  refine wpE_mono hC e1 (fun x s1 h1 => wpE_mono hC e2 (fun y s2 h2 => wpE_mono hC e3 (fun z s3 ⟨a, b, c, q1, q2, q3, hb, r⟩ => ?_) h2) h1) h
  subst q1 q2 q3
  rw [rng3 hb]
  exact r
end
end PL
namespace PL
open PySem
theorem I_rngD {C : Cs} {ρ : Vs} {s : S} {R : ItP} (hC : CsLe C C) {e1 e2 : E} (h : wpE C e1 ρ s fun x s1 => wpE C e2 ρ s1 fun y s2 => ∃ a b : Int, x = .int a ∧ y = .int b ∧ (-(2 ^ 61) ≤ a ∧ a < 2 ^ 61 ∧ -(2 ^ 61) ≤ b ∧ b < 2 ^ 61) ∧
    R (fun _ => True) (rangeL a (a - b).toNat (-1)) s2) : wpI C (.rng [e1, e2, .neg (.int 1)]) ρ s R := by
  refine I_rng3 hC ?_
  refine wpE_mono hC e1 (fun x s1 h1 => wpE_mono hC e2 (fun y s2 ⟨a, b, q1, q2, hb, r⟩ => ?_) h1) h
  simp only [wpE]
  refine ⟨a, b, -1, q1, q2, rfl, ⟨hb.1, hb.2.1, hb.2.2.1, hb.2.2.2, by decide, by decide⟩, ?_⟩
  rw [if_neg (by decide), show (-(-1) : Int) = 1 from rfl, Int.ediv_one, show a - b - -1 - 1 = a - b from by omega]
  exact r
end PL
namespace PL
theorem tru_bl {s : S} {b : Bool} : tru s (.bl b) = some b := rfl
end PL
namespace PL
section
variable {s : S} {Q : Post} {i j : Int} {xs ys : List D} {a b : Nat}
theorem bin_addI : wpBin .add (.int i) (.int j) s Q = Q (.int (i + j)) s := rfl
theorem bin_addS {x y : PySem.Str} : wpBin .add (.str x) (.str y) s Q = (x.length + y.length ≤ lim ∧ Q (.str (x ++ y)) s) := rfl
theorem bin_addT : wpBin .add (.tup xs) (.tup ys) s Q = (xs.length + ys.length ≤ lim ∧ Q (.tup (xs ++ ys)) s) := rfl
theorem bin_addL : wpBin .add (.loc a) (.loc b) s Q = ∃ xs ys, s a = some (.lst xs) ∧ s b = some (.lst ys) ∧ xs.length + ys.length ≤ lim ∧ newO (.lst (xs ++ ys)) s Q := rfl
theorem bin_subI : wpBin .sub (.int i) (.int j) s Q = Q (.int (i - j)) s := rfl
theorem bin_mulI : wpBin .mul (.int i) (.int j) s Q = (((-(2 ^ 64) < i ∧ i < 2 ^ 64) ∨ (-(2 ^ 64) < j ∧ j < 2 ^ 64)) ∧ Q (.int (i * j)) s) := rfl
theorem bin_fdivI : wpBin .fdiv (.int i) (.int j) s Q = ((0 < j ∧ j < 1073741824) ∧ Q (.int (i / j)) s) := rfl
theorem bin_modI : wpBin .mod (.int i) (.int j) s Q = (0 < j ∧ Q (.int (i % j)) s) := rfl
theorem bin_powI : wpBin .pow (.int i) (.int j) s Q = ((0 ≤ j ∧ j ≤ 1000000 ∧ i.natAbs < 2 ^ 64) ∧ Q (.int (i ^ j.toNat)) s) := rfl
theorem bw_len : wpBi .len = wpLen := rfl
theorem bw_abs : wpBi .abs = wpAbs := rfl
theorem bw_int : wpBi .int = wpInt := rfl
theorem bw_list : wpBi .list = wpList := rfl
theorem bw_tuple : wpBi .tuple = wpTuple := rfl
theorem bw_sorted : wpBi .sorted = wpSorted false := rfl
theorem bw_sum : wpBi .sum = wpSum := rfl
theorem bw_all : wpBi .all = wpAllB := rfl
theorem bw_any : wpBi .any = wpAnyB := rfl
theorem bw_max : wpBi .max = wpMax := rfl
theorem bw_min : wpBi .min = wpMin := rfl
theorem bw_isi {c : Cl} : wpBi (.isi c) = wpIsi c := rfl
theorem len_T : wpLen [.tup xs] s Q = Q (.int xs.length) s := rfl
theorem len_L (h : s a = some (.lst xs)) (q : Q (.int xs.length) s) : wpLen [.loc a] s Q := by
  simp only [wpLen, h]
  exact q
theorem abs_I : wpAbs [.int i] s Q = Q (.int (if i < 0 then -i else i)) s := rfl
theorem int_I : wpInt [.int i] s Q = Q (.int i) s := rfl
theorem aug_addI : wpAug .add (.int i) (.int j) s Q = Q (.int (i + j)) s := rfl
theorem aug_subI : wpAug .sub (.int i) (.int j) s Q = Q (.int (i - j)) s := rfl
theorem cm_ltI : wpCm .lt (.int i) (.int j) s Q = Q (.bl (decide (i < j))) s := rfl
theorem cm_leI : wpCm .le (.int i) (.int j) s Q = Q (.bl (decide (i ≤ j))) s := rfl
theorem cm_gtI : wpCm .gt (.int i) (.int j) s Q = Q (.bl (decide (j < i))) s := rfl
theorem cm_geI : wpCm .ge (.int i) (.int j) s Q = Q (.bl (decide (j ≤ i))) s := rfl
end
end PL
namespace PL
theorem I_val {C : Cs} {ρ : Vs} {s : S} {R : ItP} {e : E} : wpI C (.val e) ρ s R = wpE C e ρ s fun x s1 => wpIter x s1 R := by simp only [wpI]
end PL
namespace PL
theorem st_for {C : Cs} {K : Ds} {ρ : Vs} {s : S} {tg : Tg} {it : E} {body : List St} : wpS C (.for tg it body) K ρ s = wpI C it ρ s fun chk xs s1 => forL chk (fun x ρ s k => wpTg C tg x ρ s fun ρ2 s2 => wpSs C body ⟨k, K.rt, K.nx, k⟩ ρ2 s2) K.nx xs ρ s1 := by simp only [wpS]
end PL
end

section
set_option Elab.async false
set_option linter.all false
set_option maxRecDepth 100000
set_option maxHeartbeats 4000000
namespace PL
open PySem PySem.W PySem.SeqAt

/-! ## plain values: whole numbers, texts, None, tuples of these -/
mutual
theorem beq_iff : ∀ x y : D, D.beq x y = true ↔ x = y
  | .non, y => by cases y <;> simp [D.beq]
  | .bl a, y => by cases y <;> simp [D.beq]
  | .int a, y => by cases y <;> simp [D.beq]
  | .str a, y => by cases y <;> simp [D.beq]
  | .loc a, y => by cases y <;> simp [D.beq]
  | .tup xs, y => by
    cases y with
    | tup ys => simp only [D.beq, beqs_iff xs ys, D.tup.injEq]
    | _ => simp [D.beq]
theorem beqs_iff : ∀ xs ys : List D, D.beqs xs ys = true ↔ xs = ys
  | [], [] => by simp [D.beqs]
  | [], _ :: _ => by simp [D.beqs]
  | _ :: _, [] => by simp [D.beqs]
  | x :: xs, y :: ys => by simp only [D.beqs, Bool.and_eq_true, beq_iff x y, beqs_iff xs ys, List.cons.injEq]
end
instance : DecidableEq D := fun x y => decidable_of_iff (D.beq x y = true) (beq_iff x y)
mutual
def datP : D → PyData
  | .non => .none
  | .bl b => .bool b
  | .int i => .int i
  | .str x => .str x
  | .tup xs => .tuple (datPs xs)
  | .loc _ => .none
def datPs : List D → List PyData
  | [] => []
  | x :: xs => datP x :: datPs xs
end
theorem datPs_map : ∀ xs : List D, datPs xs = xs.map datP
  | [] => rfl
  | x :: xs => by simp only [datPs, datPs_map xs, List.map_cons]
/-- plain, of a depth of n at most -/
def okD : Nat → D → Bool
  | _, .non => true
  | _, .int _ => true
  | _, .str _ => true
  | n + 1, .tup xs => xs.all (okD n)
  | _, _ => false
theorem okD_up : ∀ (n : Nat) (d : D) (m : Nat), okD n d = true → n ≤ m → okD m d = true
  | n, .non, m, _, _ => by unfold okD; rfl
  | n, .int _, m, _, _ => by unfold okD; rfl
  | n, .str _, m, _, _ => by unfold okD; rfl
  | n, .bl _, m, h, _ => by cases n <;> simp [okD] at h
  | n, .loc _, m, h, _ => by cases n <;> simp [okD] at h
  | 0, .tup xs, m, h, _ => by simp [okD] at h
  | n + 1, .tup xs, 0, h, hl => by omega
  | n + 1, .tup xs, m + 1, h, hl => by
    simp only [okD, List.all_eq_true] at h ⊢
    exact fun x hx => okD_up n x m (h x hx) (by omega)
theorem mapM_ok {f : D → Option PyData} {g : D → PyData} : ∀ {xs : List D}, (∀ x ∈ xs, f x = some (g x)) → xs.mapM f = some (xs.map g)
  | [], _ => rfl
  | x :: xs, h => by
    rw [List.mapM_cons, h x (by simp), mapM_ok fun y hy => h y (by simp [hy])]
    rfl
theorem dat_ok {s : S} : ∀ (n : Nat) (d : D) (m : Nat), okD n d = true → n ≤ m → dat s m d = some (datP d)
  | n, .non, m, _, _ => by simp only [dat, datP]
  | n, .int _, m, _, _ => by simp only [dat, datP]
  | n, .str _, m, _, _ => by simp only [dat, datP]
  | n, .bl _, m, h, _ => by cases n <;> simp [okD] at h
  | n, .loc _, m, h, _ => by cases n <;> simp [okD] at h
  | 0, .tup xs, m, h, _ => by simp [okD] at h
  | n + 1, .tup xs, 0, h, hl => by omega
  | n + 1, .tup xs, m + 1, h, hl => by
    simp only [okD, List.all_eq_true] at h
    simp only [dat, datP, datPs_map]
    rw [mapM_ok fun x hx => dat_ok n x m (h x hx) (by omega)]
    rfl
theorem dats_ok {s : S} {n m : Nat} {xs : List D} (h : ∀ x ∈ xs, okD n x = true) (hl : n ≤ m) : xs.mapM (dat s m) = some (xs.map datP) := mapM_ok fun x hx => dat_ok n x m (h x hx) hl
mutual
theorem eqv_ok : ∀ (n : Nat) (x y : D) (m : Nat), okD n x = true → okD m y = true → PyData.eqv (datP x) (datP y) = decide (x = y)
  | n, .bl _, _, _, h, _ => by cases n <;> simp [okD] at h
  | n, .loc _, _, _, h, _ => by cases n <;> simp [okD] at h
  | n, .non, y, m, _, h => by cases y <;> first | (cases m <;> simp [okD] at h; done) | simp [datP, PyData.eqv]
  | n, .int i, y, m, _, h => by
    cases y <;> first | (cases m <;> simp [okD] at h; done) | (simp [datP, PyData.eqv]; done) | (simp only [datP, PyData.eqv, D.int.injEq]; rw [Bool.beq_eq_decide_eq])
  | n, .str i, y, m, _, h => by
    cases y <;> first | (cases m <;> simp [okD] at h; done) | (simp [datP, PyData.eqv]; done) | (simp only [datP, PyData.eqv, D.str.injEq]; rw [Bool.beq_eq_decide_eq])
  | n + 1, .tup xs, y, m, h, h2 => by
    simp only [okD, List.all_eq_true] at h
    cases y with
    | tup ys =>
      cases m with
      | zero => simp [okD] at h2
      | succ m =>
        simp only [okD, List.all_eq_true] at h2
        simp only [datP, PyData.eqv, D.tup.injEq]
        exact eqvs_ok n xs ys m h h2
    | bl _ => cases m <;> simp [okD] at h2
    | loc _ => cases m <;> simp [okD] at h2
    | _ => simp [datP, PyData.eqv]
  | 0, .tup xs, _, _, h, _ => by simp [okD] at h
theorem eqvs_ok : ∀ (n : Nat) (xs ys : List D) (m : Nat), (∀ x ∈ xs, okD n x = true) → (∀ y ∈ ys, okD m y = true) → PyData.eqvAll (datPs xs) (datPs ys) = decide (xs = ys)
  | n, [], [], _, _, _ => by simp [datPs, PyData.eqvAll]
  | n, [], _ :: _, _, _, _ => by simp [datPs, PyData.eqvAll]
  | n, _ :: _, [], _, _, _ => by simp [datPs, PyData.eqvAll]
  | n, x :: xs, y :: ys, m, h, h2 => by
    simp only [datPs, PyData.eqvAll]
    rw [eqv_ok n x y m (h x (by simp)) (h2 y (by simp)), eqvs_ok n xs ys m (fun z hz => h z (by simp [hz])) (fun z hz => h2 z (by simp [hz]))]
    rw [Bool.eq_iff_iff]
    simp
end
/-- a value's place -/
theorem place_ok {n : Nat} {xs : List D} {y : D} (h : ∀ x ∈ xs, okD n x = true) (hy : okD n y = true) : dataPlace (xs.map datP) (datP y) = xs.findIdx? (fun x => decide (x = y)) := by
  unfold dataPlace
  induction xs with
  | nil => rfl
  | cons x xs ih =>
    rw [List.map_cons, List.findIdx?_cons, List.findIdx?_cons, eqv_ok n x y n (h x (by simp)) hy, ih fun z hz => h z (by simp [hz])]
theorem any_ok {n : Nat} {xs : List D} {y : D} (h : ∀ x ∈ xs, okD n x = true) (hy : okD n y = true) : ((xs.map datP).any fun z => PyData.eqv z (datP y)) = decide (y ∈ xs) := by
  induction xs with
  | nil => simp
  | cons x xs ih =>
    rw [List.map_cons, List.any_cons, eqv_ok n x y n (h x (by simp)) hy, ih fun z hz => h z (by simp [hz]), Bool.eq_iff_iff, Bool.or_eq_true, decide_eq_true_iff, decide_eq_true_iff, decide_eq_true_iff, List.mem_cons]
    exact or_congr ⟨Eq.symm, Eq.symm⟩ Iff.rfl
/-! ### sorting -/
theorem toks_inj {x y : PyData} (h : alike x y = true) (e : keyToks x = keyToks y) : PyData.eqv x y = true := by
  cases q : PyData.eqv x y with
  | true => rfl
  | false =>
    have := (toks_eqv x y h).2 q
    have a := this [] [.inl 0]
    have b := this [.inl 0] []
    rw [e] at a b
    rw [lex_pre] at a b
    rw [← b] at a
    simp [PyProof.Rows.lexLt] at a
def alikeL (xs : List D) : Prop := ∀ x ∈ xs, ∀ y ∈ xs, alike (datP x) (datP y) = true
theorem datD_ok {s : S} {n : Nat} {d : D} (h : okD n d = true) (hn : n ≤ 50) : datD s d = datP d := by
  unfold datD
  rw [dat_ok n d 50 h hn]
  rfl
theorem sort_perm {s : S} {rev : Bool} {xs : List D} : (sortS s rev xs).Perm xs := List.mergeSort_perm _ _
/-- a sorted list hangs on the items alone -/
theorem sort_canon {s t : S} {rev : Bool} {n : Nat} {xs ys : List D} (hn : n ≤ 50) (ho : ∀ x ∈ xs, okD n x = true) (ha : alikeL xs) (hp : xs.Perm ys) : sortS s rev xs = sortS t rev ys := by
  have T := sortLe_total (PyProof.Rows.listOrd PyProof.Rows.itemOrd) rev fun b => keyToks (datP b)
  have e1 : ∀ (u : S) (zs : List D), (∀ x ∈ zs, okD n x = true) → sortS u rev zs = zs.mergeSort (dataLe rev datP) := fun u zs hz => by
    unfold sortS
    refine sort_congr fun a ha b hb => ?_
    unfold dataLe sortLe
    simp only
    rw [datD_ok (hz a ha) hn, datD_ok (hz b hb) hn]
  rw [e1 s xs ho, e1 t ys fun y hy => ho y (hp.mem_iff.mpr hy)]
  refine List.Perm.eq_of_pairwise (le := fun a b => dataLe rev datP a b = true) (fun a b ha1 hb1 h1 h2 => ?_) (List.pairwise_mergeSort T.trans (fun a b => by rw [Bool.or_eq_true]; exact T.total a b) xs) (List.pairwise_mergeSort T.trans (fun a b => by rw [Bool.or_eq_true]; exact T.total a b) ys) (((List.mergeSort_perm xs _).trans hp).trans (List.mergeSort_perm ys _).symm)
  have ax : a ∈ xs := (List.mergeSort_perm xs _).mem_iff.mp ha1
  have bx : b ∈ xs := hp.mem_iff.mpr ((List.mergeSort_perm ys _).mem_iff.mp hb1)
  have q : keyToks (datP a) = keyToks (datP b) := by
    unfold dataLe sortLe at h1 h2
    cases rev <;> simp only [cond_true, cond_false, Bool.not_eq_true'] at h1 h2
    · exact (PyProof.Rows.listOrd PyProof.Rows.itemOrd).total _ _ h2 h1
    · exact (PyProof.Rows.listOrd PyProof.Rows.itemOrd).total _ _ h1 h2
  have := toks_inj (ha a ax b bx) q
  rw [eqv_ok n a b n (ho a ax) (ho b bx)] at this
  exact of_decide_eq_true this
end PL
namespace PL
open PySem PySem.W PySem.SeqAt
section
variable {s : S} {Q : Post} {l n : Nat} {xs : List D}
theorem seqAt_up {p : Nat} : seqAt (s.up p (.lst xs)) p = some xs := by unfold seqAt; rw [S.up_same]
theorem allAlike_of (ha : alikeL xs) : AllAlike (xs.map datP) := fun d hd e he => by
  obtain ⟨x, hx, rfl⟩ := List.mem_map.mp hd
  obtain ⟨y, hy, rfl⟩ := List.mem_map.mp he
  exact ha x hx y hy
theorem w_sorted {x : D} {rev : Bool} (hi : itemsOf s x = some xs) (ho : ∀ x ∈ xs, okD n x = true) (hn : n ≤ 50) (ha : alikeL xs) (hs : Sortable (xs.map datP)) (q : ∀ p, s p = none → Q (.loc p) (s.up p (.lst (sortS s rev xs)))) : wpSorted rev [x] s Q :=
  ⟨xs, xs.map datP, hi, ⟨dats_ok ho hn, allAlike_of ha, hs⟩, q⟩
theorem find_nodup {one : D} : ∀ {xs : List D} {j : Nat}, xs.Nodup → xs[j]? = some one → xs.findIdx? (fun y => decide (y = one)) = some j
  | [], j, _, h => by simp at h
  | x :: xs, 0, _, h => by
    simp at h; subst h
    simp [List.findIdx?_cons]
  | x :: xs, j + 1, nd, h => by
    rw [List.nodup_cons] at nd
    have h' : xs[j]? = some one := by simpa using h
    have hm := List.mem_of_getElem? h'
    rw [List.findIdx?_cons, find_nodup nd.2 h']
    rw [if_neg]
    · rfl
    · rw [decide_eq_true_iff]
      rintro rfl
      exact nd.1 hm
theorem w_index {x : D} {j : Nat} (hs : seqAt s l = some xs) (ho : ∀ x ∈ xs, okD n x = true) (hx : okD n x = true) (hn : n ≤ 50) (hf : xs.findIdx? (fun y => decide (y = x)) = some j) (q : Q (.int j) s) : wpIndex (.loc l) [x] s Q :=
  ⟨xs, xs.map datP, datP x, j, hs, dats_ok ho (by omega), dat_ok n x 60 hx (by omega), by rw [place_ok ho hx]; exact hf, q⟩
theorem w_remove {x : D} {j : Nat} (hs : s l = some (.lst xs)) (ho : ∀ x ∈ xs, okD n x = true) (hx : okD n x = true) (hn : n ≤ 50) (hf : xs.findIdx? (fun y => decide (y = x)) = some j) (q : Q .non (s.up l (.lst (xs.eraseIdx j)))) : wpRemove (.loc l) [x] s Q :=
  ⟨xs, xs.map datP, datP x, j, hs, dats_ok ho (by omega), dat_ok n x 60 hx (by omega), by rw [place_ok ho hx]; exact hf, q⟩
theorem w_popAt {i : Int} {j : Nat} {d : D} (hs : s l = some (.lst xs)) (hi : i = j) (hj : xs[j]? = some d) (hl : xs.length ≤ lim) (q : Q d (s.up l (.lst (xs.eraseIdx j)))) : wpPopAt (.loc l) [.int i] s Q := by
  have hlt := (List.getElem?_eq_some_iff.mp hj).1
  have hb : j < 16777216 := Nat.lt_of_lt_of_le hlt hl
  refine ⟨xs, j, d, hs, by subst hi; omega, ?_, hj, q⟩
  unfold ixOf
  subst hi
  rw [if_pos (by omega), if_pos (by omega)]
  rfl
theorem ix_nat {n j : Nat} (h : j < n) : ixOf n (j : Int) = some j := by
  unfold ixOf
  rw [if_pos (by omega), if_pos (by omega)]
  rfl
theorem at_nat {j : Nat} {d : D} (h : xs[j]? = some d) : atD xs (j : Int) = some d := by
  unfold atD
  rw [ix_nat (List.getElem?_eq_some_iff.mp h).1]
  exact h
theorem w_eq {op : Bool} {x y : D} (hx : okD n x = true) (hy : okD n y = true) (hn : n ≤ 50) (q : Q (.bl (if op = true then decide (x = y) else !decide (x = y))) s) : wpCm (if op = true then .eq else .ne) x y s Q := by
  cases op
  · rw [if_neg (by simp)] at q ⊢
    exact ⟨_, _, dat_ok n x 60 hx (by omega), dat_ok n y 60 hy (by omega), by rw [eqv_ok n x y n hx hy]; exact q⟩
  · rw [if_pos rfl] at q ⊢
    exact ⟨_, _, dat_ok n x 60 hx (by omega), dat_ok n y 60 hy (by omega), by rw [eqv_ok n x y n hx hy]; exact q⟩
end
end PL
end

section
set_option autoImplicit false
set_option linter.all false
set_option maxHeartbeats 4000000
namespace PL
open PySem PySem.W PySem.SeqAt

/-! ## values without places: lists are their items -/
inductive U where
  | non | bl (b : Bool) | int (i : Int) | str (x : Str) | tup (xs : List U) | lst (xs : List U) | rol (xs : List U) | dic (kvs : List (U × U))
  deriving Inhabited
mutual
def U.beq : U → U → Bool
  | .non, .non => true
  | .bl a, .bl b => a == b
  | .int i, .int j => i == j
  | .str x, .str y => x == y
  | .tup xs, .tup ys => U.beqs xs ys
  | .lst xs, .lst ys => U.beqs xs ys
  | .rol xs, .rol ys => U.beqs xs ys
  | .dic xs, .dic ys => U.beqk xs ys
  | _, _ => false
def U.beqs : List U → List U → Bool
  | [], [] => true
  | x :: xs, y :: ys => U.beq x y && U.beqs xs ys
  | _, _ => false
def U.beqk : List (U × U) → List (U × U) → Bool
  | [], [] => true
  | (k, v) :: xs, (k', v') :: ys => U.beq k k' && U.beq v v' && U.beqk xs ys
  | _, _ => false
end
mutual
theorem ubeq_iff : ∀ x y : U, U.beq x y = true ↔ x = y
  | .non, y => by cases y <;> simp [U.beq]
  | .bl a, y => by cases y <;> simp [U.beq]
  | .int a, y => by cases y <;> simp [U.beq]
  | .str a, y => by cases y <;> simp [U.beq]
  | .tup xs, y => by
    cases y with
    | tup ys => simp only [U.beq, ubeqs_iff xs ys, U.tup.injEq]
    | _ => simp [U.beq]
  | .lst xs, y => by
    cases y with
    | lst ys => simp only [U.beq, ubeqs_iff xs ys, U.lst.injEq]
    | _ => simp [U.beq]
  | .rol xs, y => by
    cases y with
    | rol ys => simp only [U.beq, ubeqs_iff xs ys, U.rol.injEq]
    | _ => simp [U.beq]
  | .dic xs, y => by
    cases y with
    | dic ys => simp only [U.beq, ubeqk_iff xs ys, U.dic.injEq]
    | _ => simp [U.beq]
theorem ubeqs_iff : ∀ xs ys : List U, U.beqs xs ys = true ↔ xs = ys
  | [], [] => by simp [U.beqs]
  | [], _ :: _ => by simp [U.beqs]
  | _ :: _, [] => by simp [U.beqs]
  | x :: xs, y :: ys => by simp only [U.beqs, Bool.and_eq_true, ubeq_iff x y, ubeqs_iff xs ys, List.cons.injEq]
theorem ubeqk_iff : ∀ xs ys : List (U × U), U.beqk xs ys = true ↔ xs = ys
  | [], [] => by simp [U.beqk]
  | [], _ :: _ => by simp [U.beqk]
  | _ :: _, [] => by simp [U.beqk]
  | (k, v) :: xs, (k', v') :: ys => by simp only [U.beqk, Bool.and_eq_true, ubeq_iff k k', ubeq_iff v v', ubeqk_iff xs ys, List.cons.injEq, Prod.mk.injEq]
end
instance : DecidableEq U := fun x y => decidable_of_iff (U.beq x y = true) (ubeq_iff x y)

/-- data for == -/
def datU : Nat → U → Option PyData
  | _, .non => some .none
  | _, .bl b => some (.bool b)
  | _, .int i => some (.int i)
  | _, .str x => some (.str x)
  | n + 1, .tup xs => (xs.mapM (datU n)).map .tuple
  | n + 1, .lst xs => (xs.mapM (datU n)).map .list
  | n + 1, .rol xs => (xs.mapM (datU n)).map .list
  | _, .dic _ => none
  | 0, .tup _ => none
  | 0, .lst _ => none
  | 0, .rol _ => none
/-- whole numbers, texts, None, tuples of these -/
def okU : Nat → U → Bool
  | _, .non => true
  | _, .int _ => true
  | _, .str _ => true
  | n + 1, .tup xs => xs.all (okU n)
  | _, _ => false
mutual
def dU : U → PyData
  | .non => .none
  | .bl b => .bool b
  | .int i => .int i
  | .str x => .str x
  | .tup xs => .tuple (dUs xs)
  | .lst xs => .list (dUs xs)
  | .rol xs => .list (dUs xs)
  | .dic _ => .none
def dUs : List U → List PyData
  | [] => []
  | x :: xs => dU x :: dUs xs
end
/-- the value that stands alone for a flat one -/
def flatD : Nat → U → D
  | _, .non => .non
  | _, .int i => .int i
  | _, .str x => .str x
  | n + 1, .tup xs => .tup (xs.map (flatD n))
  | _, _ => .non
def alikeB (xs : List U) : Bool := xs.all fun x => xs.all fun y => alike (dU x) (dU y)
def sortableB (xs : List U) : Bool := (xs.all fun x => match x with | .tup (_ :: _) => true | _ => false) || (xs.all fun x => match x with | .tup _ => false | .non => false | .dic _ => false | _ => true)
def leU (rev : Bool) (x y : U) : Bool := if rev then !dataLt (dU x) (dU y) else !dataLt (dU y) (dU x)
def ins {α : Type} (le : α → α → Bool) (x : α) : List α → List α
  | [] => [x]
  | y :: ys => if le x y then x :: y :: ys else y :: ins le x ys
def isort {α : Type} (le : α → α → Bool) : List α → List α
  | [] => []
  | x :: xs => ins le x (isort le xs)
def sortU (rev : Bool) (xs : List U) : Option (List U) := if (xs.all (okU 50) && alikeB xs && sortableB xs) = true then some (isort (leU rev) xs) else none

def truU : U → Option Bool
  | .non => some false
  | .bl b => some b
  | .int i => some (i != 0)
  | .str x => if x.length ≤ lim then some (x.length != 0) else none
  | .tup xs => some (!xs.isEmpty)
  | .lst xs => some (!xs.isEmpty)
  | .rol xs => some (!xs.isEmpty)
  | .dic kvs => some (!kvs.isEmpty)

def ubin : Op → U → U → Option U
  | .add, .int i, .int j => some (.int (i + j))
  | .add, .str x, .str y => if x.length + y.length ≤ lim then some (.str (x ++ y)) else none
  | .add, .tup xs, .tup ys => if xs.length + ys.length ≤ lim then some (.tup (xs ++ ys)) else none
  | .add, .lst xs, .lst ys => if xs.length + ys.length ≤ lim then some (.lst (xs ++ ys)) else none
  | .sub, .int i, .int j => some (.int (i - j))
  | .mul, .int i, .int j => if (-(2 ^ 64) < i ∧ i < 2 ^ 64) ∨ (-(2 ^ 64) < j ∧ j < 2 ^ 64) then some (.int (i * j)) else none
  | .mul, .lst xs, .int k => if -(2 ^ 63) ≤ k ∧ k < 2 ^ 63 ∧ xs.length * k.toNat ≤ lim then some (.lst (List.replicate k.toNat xs).flatten) else none
  | .mul, .tup xs, .int k => if xs ≠ [] ∧ 2 ≤ k ∧ k ≤ 1000 ∧ xs.length ≤ 1000 then some (.tup (List.replicate k.toNat xs).flatten) else none
  | .fdiv, .int i, .int j => if 0 < j ∧ j < 1073741824 then some (.int (i / j)) else none
  | .mod, .int i, .int j => if 0 < j then some (.int (i % j)) else none
  | .pow, .int i, .int j => if 0 ≤ j ∧ j ≤ 1000000 ∧ i.natAbs < 2 ^ 64 then some (.int (i ^ j.toNat)) else none
  | .shl, .int i, .int j => if 0 ≤ j ∧ j ≤ 1000000 ∧ i.natAbs < 2 ^ 64 then some (.int (i * 2 ^ j.toNat)) else none
  | .shr, .int i, .int j => if 0 ≤ j then some (.int (i / 2 ^ j.toNat)) else none
  | .band, .int i, .int j => if 0 ≤ i ∧ j = 1 then some (.int (i % 2)) else none
  | _, _, _ => none

def keyU : U → Bool
  | .int _ => true
  | .str _ => true
  | _ => false
def uput (kvs : List (U × U)) (k v : U) : List (U × U) :=
  if kvs.any (fun kv => U.beq kv.1 k) then kvs.map fun kv => if U.beq kv.1 k then (kv.1, v) else kv else kvs ++ [(k, v)]
def uget (kvs : List (U × U)) (k : U) : Option U := (kvs.find? fun kv => U.beq kv.1 k).map (·.2)
def itemsU : U → Option (List U)
  | .tup xs => some xs
  | .lst xs => some xs
  | .rol xs => some xs
  | _ => none
/-- x in xs -/
def inU (x : U) (ys : List U) : Option Bool := (datU 60 x).bind fun a => (ys.mapM (datU 59)).map fun bs => bs.any fun z => PyData.eqv z a
def eqU (x y : U) : Option Bool := (datU 60 x).bind fun a => (datU 60 y).map fun b => PyData.eqv a b
/-- tuples that can be compared -/
def ltU (x y : U) : Option Bool := (datU 50 x).bind fun a => (datU 50 y).bind fun b => if alike a b = true then some (dataLt a b) else none
def ucm : Cm → U → U → Option Bool
  | .eq, x, y => eqU x y
  | .ne, x, y => (eqU x y).map not
  | .lt, .int i, .int j => some (decide (i < j))
  | .lt, .str x, .str y => some (dataLt (.str x) (.str y))
  | .lt, .tup xs, .tup ys => ltU (.tup xs) (.tup ys)
  | .gt, .tup xs, .tup ys => (datU 50 (.tup xs)).bind fun a => (datU 50 (.tup ys)).bind fun b => if alike a b = true then some (dataLt b a) else none
  | .le, .tup xs, .tup ys => (datU 50 (.tup xs)).bind fun a => (datU 50 (.tup ys)).bind fun b => if alike a b = true then some (!dataLt b a) else none
  | .le, .int i, .int j => some (decide (i ≤ j))
  | .gt, .int i, .int j => some (decide (j < i))
  | .ge, .int i, .int j => some (decide (j ≤ i))
  | .isin, x, .dic kvs => if keyU x = true then some (uget kvs x).isSome else none
  | .notin, x, .dic kvs => if keyU x = true then some (!(uget kvs x).isSome) else none
  | .isin, x, y => (itemsU y).bind (inU x)
  | .notin, x, y => ((itemsU y).bind (inU x)).map not
  | _, _, _ => none
def isClU : Cl → U → Option Bool
  | c, .non => some false
  | c, .bl _ => some (c == .bool || c == .int)
  | c, .int _ => some (c == .int)
  | c, .str _ => some (c == .str)
  | c, .tup _ => some (c == .tuple)
  | c, .lst _ => some (c == .list)
  | c, .dic _ => some (c == .dict)
  | c, .rol _ => none
def uInt : U → Option Int
  | .int i => some i
  | _ => none
def uBl : U → Option Bool
  | .bl b => some b
  | _ => none
def rangeU (lo : Int) (n : Nat) (st : Int) : List U := (List.range n).map fun (k : Nat) => U.int (lo + (k : Int) * st)
def rngU : List U → Option (Int × Nat × Int)
  | [.int b] => if -(2 ^ 62) ≤ b ∧ b < 2 ^ 62 then some (0, b.toNat, 1) else none
  | [.int a, .int b] => if -(2 ^ 62) ≤ a ∧ a < 2 ^ 62 ∧ -(2 ^ 62) ≤ b ∧ b < 2 ^ 62 then some (a, (b - a).toNat, 1) else none
  | [.int a, .int b, .int c] => if -(2 ^ 61) ≤ a ∧ a < 2 ^ 61 ∧ -(2 ^ 61) ≤ b ∧ b < 2 ^ 61 ∧ c ≠ 0 ∧ c.natAbs < 2 ^ 30 then
      some (a, (if 0 < c then (b - a + c - 1) / c else (a - b - c - 1) / (-c)).toNat, c) else none
  | _ => none
def uputs : List (U × U) → List U → Option (List (U × U))
  | kvs, [] => some kvs
  | kvs, .tup [k, v] :: r => if keyU k = true then uputs (uput kvs k v) r else none
  | _, _ => none
/-- the first of the greatest / least of flat, alike values -/
def extU (mx : Bool) : List U → Option U
  | [] => none
  | x :: xs => if ((x :: xs).all (okU 50) && alikeB (x :: xs) && (x :: xs).all (fun z => z != .non)) = true then
      some (xs.foldl (fun a y => if (if mx then dataLt (dU a) (dU y) else dataLt (dU y) (dU a)) = true then y else a) x) else none
def ubi : Bi → List U → Option U
  | .len, [.str x] => if x.length ≤ lim then some (.int x.length) else none
  | .len, [.tup xs] => some (.int xs.length)
  | .len, [.lst xs] => some (.int xs.length)
  | .len, [.rol xs] => some (.int xs.length)
  | .len, [.dic kvs] => some (.int kvs.length)
  | .abs, [.int i] => some (.int (if i < 0 then -i else i))
  | .int, [.int i] => some (.int i)
  | .int, [.bl b] => some (.int (b2i b))
  | .list, [x] => (itemsU x).map .lst
  | .tuple, [x] => (itemsU x).map .tup
  | .sorted, [x] => (itemsU x).bind fun xs => (sortU false xs).map .lst
  | .sortedRev, [x] => (itemsU x).bind fun xs => (sortU true xs).map .lst
  | .sum, [x] => (itemsU x).bind fun xs => (xs.mapM uInt).map fun ns => .int ns.sum
  | .all, [x] => (itemsU x).bind fun xs => (xs.mapM uBl).map fun bs => .bl (bs.all id)
  | .any, [x] => (itemsU x).bind fun xs => (xs.mapM uBl).map fun bs => .bl (bs.any id)
  | .max, [.int i, .int j] => some (.int (if j > i then j else i))
  | .max, [x] => (itemsU x).bind (extU true)
  | .min, [.int i, .int j] => some (.int (if j < i then j else i))
  | .min, [x] => (itemsU x).bind (extU false)
  | .isi c, [x] => (isClU c x).map .bl
  | .str, [.int i] => if i.natAbs.log2 < 1920 then some (.str (Str.ofString (toString i))) else none
  | .listR _, xs => (rngU xs).bind fun r => if r.2.1 ≤ lim then some (.lst (rangeU r.1 r.2.1 r.2.2)) else none
  | .tupleR _, xs => (rngU xs).bind fun r => if r.2.1 ≤ lim then some (.tup (rangeU r.1 r.2.1 r.2.2)) else none
  | .dict, [x] => (itemsU x).bind fun xs => (uputs [] xs).map .dic
  | _, _ => none
def atU (xs : List U) (i : Int) : Option U := (ixOf xs.length i).bind fun j => xs[j]?
def uix : U → U → Option U
  | .tup xs, .int i => atU xs i
  | .lst xs, .int i => atU xs i
  | .rol xs, .int i => atU xs i
  | .str x, .int i => if x.length ≤ lim then (ixOf x.cps.toList.length i).bind fun j => (x.cps.toList[j]?).map fun c => .str ⟨#[c]⟩ else none
  | .dic kvs, k => if keyU k = true then uget kvs k else none
  | _, _ => none
def usl : U → Option Int → Option Int → Option U
  | .tup xs, lo, hi => some (.tup (cutD xs lo hi))
  | .lst xs, lo, hi => some (.lst (cutD xs lo hi))
  | .str x, lo, hi => if x.length ≤ lim then some (.str ⟨(cutD x.cps.toList lo hi).toArray⟩) else none
  | _, _, _ => none
def placeU (xs : List U) (x : U) : Option Nat := (xs.mapM (datU 59)).bind fun ds => (datU 60 x).bind fun y => dataPlace ds y
/-- a method: what it gives, and what the object then is -/
def umt : Mt → U → List U → Option (U × Option U)
  | .append, .lst xs, [x] => if xs.length < lim then some (.non, some (.lst (xs ++ [x]))) else none
  | .extend, .lst xs, [.lst ys] => if xs.length + ys.length ≤ lim then some (.non, some (.lst (xs ++ ys))) else none
  | .popAt, .lst xs, [.int i] => if -(2 ^ 63) ≤ i ∧ i < 2 ^ 63 then (ixOf xs.length i).bind fun j => (xs[j]?).map fun d => (d, some (.lst (xs.eraseIdx j))) else none
  | .pop, .lst xs, [] => (xs[xs.length - 1]?).map fun d => (d, some (.lst xs.dropLast))
  | .index, .lst xs, [x] => (placeU xs x).map fun (j : Nat) => (U.int (j : Int), none)
  | .remove, .lst xs, [x] => (placeU xs x).map fun j => (.non, some (.lst (xs.eraseIdx j)))
  | .count, .lst xs, [y] => (xs.mapM (datU 59)).bind fun ds => (datU 60 y).map fun b => (.int (ds.countP fun z => PyData.eqv z b : Nat), none)
  | .count, .tup xs, [y] => (xs.mapM (datU 59)).bind fun ds => (datU 60 y).map fun b => (.int (ds.countP fun z => PyData.eqv z b : Nat), none)
  | .get1, .dic kvs, [k] => if keyU k = true then some ((uget kvs k).getD .non, none) else none
  | .get2, .dic kvs, [k, d] => if keyU k = true then some ((uget kvs k).getD d, none) else none
  | _, _, _ => none
def recvU : Mt → U → Bool
  | .get1, .dic _ => true
  | .get2, .dic _ => true
  | .get1, _ => false
  | .get2, _ => false
  | .count, .tup _ => true
  | _, .lst _ => true
  | _, _ => false
def uset : U → U → U → Option U
  | .lst xs, .int i, v => (ixOf xs.length i).map fun j => .lst (xs.set j v)
  | .dic kvs, k, v => if keyU k = true ∧ kvs.length < lim then some (.dic (uput kvs k v)) else none
  | _, _, _ => none
def uaug : Op → U → U → Option U
  | .add, .int i, .int j => some (.int (i + j))
  | .sub, .int i, .int j => some (.int (i - j))
  | _, _, _ => none
def uiter : U → Option (List U)
  | .tup xs => some xs
  | .lst xs => some xs
  | .rol xs => some xs
  | .str x => some (x.cps.toList.map fun c => .str ⟨#[c]⟩)
  | _ => none
end PL
end

section
set_option autoImplicit false
set_option linter.all false
set_option maxHeartbeats 4000000
namespace PL
open PySem PySem.W PySem.SeqAt

/-! ## slots -/
inductive Sl where
  | no | val (v : Option U) | own (v : U) | ref (v : U) | bor (v : U)
abbrev Env := List Sl
def rdV (ρ : Env) (i : Nat) : Option U := match ρ.getD i .no with | .val v => v | _ => none
def rdO (ρ : Env) (i : Nat) : Option U := match ρ.getD i .no with | .own v => some v | .ref v => some v | .bor v => some v | _ => none
def wrO (ρ : Env) (i : Nat) (v : U) : Option Env := match ρ.getD i .no with | .own _ => some (ρ.set i (.own v)) | .ref _ => some (ρ.set i (.ref v)) | _ => none
def mvO (ρ : Env) (i : Nat) : Option (U × Env) := match ρ.getD i .no with | .own v => some (v, ρ.set i .no) | _ => none
def stV (ρ : Env) (i : Nat) (v : U) : Option Env := match ρ.getD i .no with | .no => some (ρ.set i (.val (some v))) | .val _ => some (ρ.set i (.val (some v))) | _ => none
def isC : U → Bool
  | .lst _ => true
  | .dic _ => true
  | _ => false
def stO (ρ : Env) (i : Nat) (v : U) : Option Env := match ρ.getD i .no with
  | .no => if isC v = true then some (ρ.set i (.own v)) else none
  | .own _ => if isC v = true then some (ρ.set i (.own v)) else none
  | .val none => if isC v = true then some (ρ.set i (.own v)) else none
  | _ => none
/-- an operand, read once more -/
def rdA : E → U → Env → Option U
  | .own i, _, ρ => rdO ρ i
  | _, v, _ => some v
def rdAs : List E → List U → Env → Option (List U)
  | [], [], _ => some []
  | e :: es, v :: vs, ρ => (rdA e v ρ).bind fun v' => (rdAs es vs ρ).map fun r => v' :: r
  | _, _, _ => none
def wrE : E → U → Env → Option Env
  | .own i, n, ρ => wrO ρ i n
  | _, _, _ => none
def wrs : List E → List (Option U) → Env → Option Env
  | _, [], ρ => some ρ
  | .own i :: es, some v :: fs, ρ => (wrO ρ i v).bind fun ρ' => wrs es fs ρ'
  | _ :: es, _ :: fs, ρ => wrs es fs ρ
  | [], _ :: _, _ => none
/-- what is walked is not written meanwhile -/
def lockO : Option Nat → Env → Env
  | none, ρ => ρ
  | some i, ρ => match ρ.getD i .no with
    | .own v => ρ.set i (.bor v)
    | .ref v => ρ.set i (.bor v)
    | _ => ρ
def unlockO : Option Nat → Env → Env → Option Env
  | none, _, ρ' => some ρ'
  | some i, ρ0, ρ' => match ρ0.getD i .no, ρ'.getD i .no with
    | .own _, .bor v => some (ρ'.set i (.own v))
    | .ref _, .bor v => some (ρ'.set i (.ref v))
    | .bor _, .bor _ => some ρ'
    | _, _ => none
def okOwn : List Nat → Env → Bool
  | [], _ => true
  | i :: is, ρ => (match ρ.getD i .no with | .no => true | .val _ => true | _ => false) && okOwn is ρ
abbrev Cv := Nat → List U → Option (U × List (Option U))
def bd {α β : Type} (x : Option (α × Env)) (f : α → Env → Option β) : Option β := match x with | some (a, ρ) => f a ρ | none => none
structure Ic where
  lk : Option Nat
  xs : List U
  ρ : Env
def bindU (tg : List Nat) (tup : Bool) (x : U) (ρ : Env) : Option Env :=
  if tup then (match x with
    | .tup ys => if ys.length = tg.length then some ((tg.zip ys).foldl (fun r p => r.set p.1 (.val (some p.2))) ρ) else none
    | _ => none)
  else match tg with
    | [i] => some (ρ.set i (.val (some x)))
    | _ => none
def wipeU (ρ : Env) : List Nat → Env
  | [] => ρ
  | v :: vs => (wipeU ρ vs).set v .no
/-- the names of a turn -/
def bindW (tg : List Nat) (tup : Bool) (own : List Nat) (x : U) (ρ : Env) : Option Env := if okOwn own ρ = true then bindU tg tup x (wipeU ρ own) else none
/-- the comprehension's own names as they were -/
def backU (ρ : Env) : List Nat → Env → Env
  | [], ρ' => ρ'
  | v :: vs, ρ' => (backU ρ vs ρ').set v (ρ.getD v .no)
def compU (turn : U → Env → Option (Option U × Env)) : List U → Env → Option (List U × Env)
  | [], ρ => some ([], ρ)
  | x :: xs, ρ => bd (turn x ρ) fun y ρ1 => bd (compU turn xs ρ1) fun ys ρ2 => some (y.toList ++ ys, ρ2)
inductive Rs where
  | nx (ρ : Env) | rt (v : U) (ρ : Env) | bk (ρ : Env) | ct (ρ : Env)
def sq (x : Option Rs) (f : Env → Option Rs) : Option Rs := match x with | some (.nx ρ) => f ρ | r => r
def forU (turn : U → Env → Option Rs) : List U → Env → Option Rs
  | [], ρ => some (.nx ρ)
  | x :: xs, ρ => match turn x ρ with
    | some (.nx ρ') => forU turn xs ρ'
    | some (.ct ρ') => forU turn xs ρ'
    | some (.bk ρ') => some (.nx ρ')
    | some (.rt v ρ') => some (.rt v ρ')
    | none => none
def unRs (lk : Option Nat) (ρ0 : Env) : Option Rs → Option Rs
  | some (.nx ρ) => (unlockO lk ρ0 ρ).map .nx
  | some (.rt v ρ) => (unlockO lk ρ0 ρ).map fun ρ' => .rt v ρ'
  | _ => none
/-- which slot is walked -/
def lkOf : E → Option Nat
  | .own i => some i
  | _ => none
def whileU (test : Env → Option (Bool × Env)) (body : Env → Option Rs) : Nat → Env → Option Rs
  | 0, _ => none
  | n + 1, ρ => bd (test ρ) fun b ρ1 => if b = true then (match body ρ1 with
    | some (.nx ρ') => whileU test body n ρ'
    | some (.ct ρ') => whileU test body n ρ'
    | some (.bk ρ') => some (.nx ρ')
    | some (.rt v ρ') => some (.rt v ρ')
    | none => none) else some (.nx ρ1)
def wfuel : Nat := 100000
def negU : U → Option U
  | .int i => some (.int (-i))
  | _ => none
def isNU (n : Bool) : U → Bool
  | .non => !n
  | _ => n
def itmU : U → Option (List U)
  | .dic kvs => some (kvs.map fun kv => .tup [kv.1, kv.2])
  | _ => none
def zipU (x y : U) : Option (List U) := (itemsU x).bind fun xs => (itemsU y).map fun ys => (xs.zip ys).map fun p => .tup [p.1, p.2]

mutual
def cE (C : Cv) : E → Env → Option (U × Env)
  | .var i, ρ => (rdV ρ i).map fun v => (v, ρ)
  | .own i, ρ => (rdO ρ i).map fun v => (v, ρ)
  | .mv i, ρ => mvO ρ i
  | .int i, ρ => some (.int i, ρ)
  | .str x, ρ => some (.str x, ρ)
  | .bl b, ρ => some (.bl b, ρ)
  | .non, ρ => some (.non, ρ)
  | .tup es, ρ => bd (cEs C es ρ) fun vs ρ1 => some (.tup vs, ρ1)
  | .lst es, ρ => bd (cEs C es ρ) fun vs ρ1 => some (.lst vs, ρ1)
  | .dic ks es, ρ => bd (cEs C es ρ) fun vs ρ1 => some (.dic ((ks.map U.str).zip vs), ρ1)
  | .bin op a b, ρ => bd (cE C a ρ) fun x ρ1 => bd (cE C b ρ1) fun y ρ2 => (rdA a x ρ2).bind fun x' => (ubin op x' y).map fun v => (v, ρ2)
  | .neg a, ρ => bd (cE C a ρ) fun x ρ1 => (negU x).map fun v => (v, ρ1)
  | .not a, ρ => bd (cE C a ρ) fun x ρ1 => (truU x).map fun b => (.bl (!b), ρ1)
  | .and es, ρ => cAnd C es ρ
  | .or es, ρ => cOr C es ρ
  | .ife c a b, ρ => bd (cT C c ρ) fun t ρ1 => if t = true then cE C a ρ1 else cE C b ρ1
  | .cmp op a b, ρ => bd (cE C a ρ) fun x ρ1 => bd (cE C b ρ1) fun y ρ2 => (rdA a x ρ2).bind fun x' => (ucm op x' y).map fun t => (.bl t, ρ2)
  | .chain o1 o2 a b c, ρ => bd (cE C a ρ) fun x ρ1 => bd (cE C b ρ1) fun y ρ2 => (rdA a x ρ2).bind fun x' => (ucm o1 x' y).bind fun t => if t = true then
      bd (cE C c ρ2) fun z ρ3 => (rdA b y ρ3).bind fun y' => (ucm o2 y' z).map fun t => (.bl t, ρ3) else some (.bl false, ρ2)
  | .isN n a, ρ => bd (cE C a ρ) fun x ρ1 => some (.bl (isNU n x), ρ1)
  | .call f es, ρ => bd (cEs C es ρ) fun vs ρ1 => (rdAs es vs ρ1).bind fun vs' => (C f vs').bind fun r => (wrs es r.2 ρ1).map fun ρ2 => (r.1, ρ2)
  | .bi b es, ρ => bd (cEs C es ρ) fun vs ρ1 => (rdAs es vs ρ1).bind fun vs' => (ubi b vs').map fun v => (v, ρ1)
  | .mt m o es, ρ => bd (cE C o ρ) fun x ρ1 => if recvU m x = true then bd (cEs C es ρ1) fun vs ρ2 => (rdAs es vs ρ2).bind fun vs' => (rdA o x ρ2).bind fun x' => (umt m x' vs').bind fun r => match r.2 with
      | none => some (r.1, ρ2)
      | some n => (wrE o n ρ2).map fun ρ3 => (r.1, ρ3)
    else none
  | .ix a b, ρ => bd (cE C a ρ) fun x ρ1 => bd (cE C b ρ1) fun y ρ2 => (rdA a x ρ2).bind fun x' => (uix x' y).map fun v => (v, ρ2)
  | .sl a lo hi, ρ => bd (cE C a ρ) fun x ρ1 => bd (cO C lo ρ1) fun l ρ2 => bd (cO C hi ρ2) fun h ρ3 => (rdA a x ρ3).bind fun x' => (usl x' l h).map fun v => (v, ρ3)
  | .comp el tg tup it cond own, ρ => (cI C it ρ).bind fun r => if r.xs.length ≤ lim then bd (compU (fun x ρ => (bindW tg tup own x ρ).bind fun ρ' =>
        bd (cC C cond ρ') fun b ρ3 => if b = true then bd (cE C el ρ3) fun y ρ4 => some (some y, backU ρ own ρ4) else some (none, backU ρ own ρ3)) r.xs (lockO r.lk r.ρ)) fun ys ρ5 => (unlockO r.lk r.ρ ρ5).map fun ρ6 => (.lst ys, ρ6) else none
  | _, _ => none
def cEs (C : Cv) : List E → Env → Option (List U × Env)
  | [], ρ => some ([], ρ)
  | e :: es, ρ => bd (cE C e ρ) fun x ρ1 => bd (cEs C es ρ1) fun xs ρ2 => some (x :: xs, ρ2)
def cO (C : Cv) : Option E → Env → Option (Option Int × Env)
  | none, ρ => some (none, ρ)
  | some e, ρ => bd (cE C e ρ) fun x ρ1 => (uInt x).map fun i => (some i, ρ1)
def cC (C : Cv) : Option E → Env → Option (Bool × Env)
  | none, ρ => some (true, ρ)
  | some e, ρ => cT C e ρ
def cAnd (C : Cv) : List E → Env → Option (U × Env)
  | [], _ => none
  | [e], ρ => cE C e ρ
  | e :: es, ρ => bd (cE C e ρ) fun x ρ1 => (uBl x).bind fun b => if b = true then cAnd C es ρ1 else some (.bl false, ρ1)
def cOr (C : Cv) : List E → Env → Option (U × Env)
  | [], _ => none
  | [e], ρ => cE C e ρ
  | e :: es, ρ => bd (cE C e ρ) fun x ρ1 => (uBl x).bind fun b => if b = true then some (.bl true, ρ1) else cOr C es ρ1
def cT (C : Cv) : E → Env → Option (Bool × Env)
  | .not a, ρ => bd (cT C a ρ) fun b ρ1 => some (!b, ρ1)
  | .and es, ρ => cAndT C es ρ
  | .or es, ρ => cOrT C es ρ
  | .ife c a b, ρ => bd (cT C c ρ) fun t ρ1 => if t = true then cT C a ρ1 else cT C b ρ1
  | .isN n a, ρ => bd (cE C a ρ) fun x ρ1 => some (isNU n x, ρ1)
  | .chain o1 o2 a b c, ρ => bd (cE C a ρ) fun x ρ1 => bd (cE C b ρ1) fun y ρ2 => (rdA a x ρ2).bind fun x' => (ucm o1 x' y).bind fun t => if t = true then
      bd (cE C c ρ2) fun z ρ3 => (rdA b y ρ3).bind fun y' => (ucm o2 y' z).map fun t => (t, ρ3) else some (false, ρ2)
  | .cmp op a b, ρ => bd (cE C a ρ) fun x ρ1 => bd (cE C b ρ1) fun y ρ2 => (rdA a x ρ2).bind fun x' => (ucm op x' y).map fun t => (t, ρ2)
  | .val e, ρ => bd (cE C e ρ) fun x ρ1 => (truU x).map fun b => (b, ρ1)
  | _, _ => none
def cAndT (C : Cv) : List E → Env → Option (Bool × Env)
  | [], _ => none
  | [e], ρ => cT C e ρ
  | e :: es, ρ => bd (cT C e ρ) fun b ρ1 => if b = true then cAndT C es ρ1 else some (false, ρ1)
def cOrT (C : Cv) : List E → Env → Option (Bool × Env)
  | [], _ => none
  | [e], ρ => cT C e ρ
  | e :: es, ρ => bd (cT C e ρ) fun b ρ1 => if b = true then some (true, ρ1) else cOrT C es ρ1
def cI (C : Cv) : E → Env → Option Ic
  | .rng es, ρ => bd (cEs C es ρ) fun vs ρ1 => (rdAs es vs ρ1).bind fun vs' => (rngU vs').map fun r => ⟨none, rangeU r.1 r.2.1 r.2.2, ρ1⟩
  | .zip a b, ρ => bd (cE C a ρ) fun x ρ1 => bd (cE C b ρ1) fun y ρ2 => (zipU x y).map fun xs => ⟨none, xs, ρ2⟩
  | .rev a, ρ => bd (cE C a ρ) fun x ρ1 => (itemsU x).map fun xs => ⟨lkOf a, xs.reverse, ρ1⟩
  | .itm a, ρ => bd (cE C a ρ) fun x ρ1 => (itmU x).map fun xs => ⟨lkOf a, xs, ρ1⟩
  | .val e, ρ => bd (cE C e ρ) fun x ρ1 => (uiter x).map fun xs => ⟨lkOf e, xs, ρ1⟩
  | _, _ => none
end

mutual
def utg : Tg → U → Env → Option Env
  | .name i, d, ρ => stV ρ i d
  | .tup ts, d, ρ => match d with
    | .tup ds => if ds.length = ts.length then utgs ts ds ρ else none
    | _ => none
  | _, _, _ => none
def utgs : List Tg → List U → Env → Option Env
  | [], [], ρ => some ρ
  | t :: ts, d :: ds, ρ => (utg t d ρ).bind fun ρ' => utgs ts ds ρ'
  | _, _, _ => none
end
mutual
def cS (C : Cv) : St → Env → Option Rs
  | .asg (.sub o i) e, ρ => bd (cE C e ρ) fun d ρ1 => bd (cE C o ρ1) fun x ρ2 => bd (cE C i ρ2) fun k ρ3 => (rdA o x ρ3).bind fun x' => (uset x' k d).bind fun n => (wrE o n ρ3).map .nx
  | .asg (.own i) e, ρ => bd (cE C e ρ) fun d ρ1 => (stO ρ1 i d).map .nx
  | .asg (.name i) e, ρ => bd (cE C e ρ) fun d ρ1 => (stV ρ1 i d).map .nx
  | .asg (.tup ts) e, ρ => bd (cE C e ρ) fun d ρ1 => (utg (.tup ts) d ρ1).map .nx
  | .aug i op e, ρ => (rdV ρ i).bind fun x => bd (cE C e ρ) fun y ρ1 => (uaug op x y).bind fun z => (stV ρ1 i z).map .nx
  | .augS o i op e, ρ => bd (cE C o ρ) fun x ρ1 => bd (cE C i ρ1) fun k ρ2 => (rdA o x ρ2).bind fun x' => if isC x' = true then (uix x' k).bind fun v => bd (cE C e ρ2) fun z ρ3 => (uaug op v z).bind fun u => (rdA o x ρ3).bind fun x'' => (uset x'' k u).bind fun n => (wrE o n ρ3).map .nx else none
  | .ife c a b, ρ => bd (cT C c ρ) fun t ρ1 => if t = true then cSs C a ρ1 else cSs C b ρ1
  | .for tg it body, ρ => (cI C it ρ).bind fun r => unRs r.lk r.ρ (forU (fun x ρ => (utg tg x ρ).bind fun ρ2 => cSs C body ρ2) r.xs (lockO r.lk r.ρ))
  | .while c body, ρ => whileU (fun ρ => cT C c ρ) (fun ρ => cSs C body ρ) wfuel ρ
  | .ret e, ρ => bd (cE C e ρ) fun v ρ1 => some (.rt v ρ1)
  | .retN, ρ => some (.rt .non ρ)
  | .expr e, ρ => bd (cE C e ρ) fun _ ρ1 => some (.nx ρ1)
  | .pass, ρ => some (.nx ρ)
  | .brk, ρ => some (.bk ρ)
  | .cont, ρ => some (.ct ρ)
def cSs (C : Cv) : List St → Env → Option Rs
  | [], ρ => some (.nx ρ)
  | st :: r, ρ => sq (cS C st ρ) fun ρ' => cSs C r ρ'
end
inductive Pc where
  | val | ref | bor
  deriving DecidableEq
def inS : Pc → U → Sl
  | .val, v => .val (some v)
  | .ref, v => .ref v
  | .bor, v => .bor v
def startU (f : Fn) (cl : List Pc) (args : List U) : Env := List.zipWith inS cl args ++ List.replicate (f.nl - args.length) (.val none)
def finU : List Pc → Env → Option (List (Option U))
  | [], _ => some []
  | .ref :: cs, .ref v :: ρ => (finU cs ρ).map fun r => some v :: r
  | .val :: cs, _ :: ρ => (finU cs ρ).map fun r => none :: r
  | .bor :: cs, _ :: ρ => (finU cs ρ).map fun r => none :: r
  | _, _ => none
def finR (cl : List Pc) (ρ : Env) : Option (List (Option U)) := if cl.contains .ref = true then finU cl ρ else some []
def endU (cl : List Pc) : Option Rs → Option (U × List (Option U))
  | some (.rt v ρ) => (finR cl ρ).map fun r => (v, r)
  | some (.nx ρ) => (finR cl ρ).map fun r => (.non, r)
  | _ => none
def refsC : List Pc → List U → Bool
  | .ref :: cs, v :: vs => isC v && refsC cs vs
  | _ :: cs, _ :: vs => refsC cs vs
  | _, _ => true
abbrev Cls := List (List Pc)
def cF (P : Prog) (Γ : Cls) : Nat → Cv
  | 0, _, _ => none
  | k + 1, i, args => match P[i]?, Γ[i]? with
    | some f, some cl => if args.length = f.np ∧ cl.length = f.np ∧ refsC cl args = true then endU cl (cSs (cF P Γ k) f.body (startU f cl args)) else none
    | _, _ => none
end PL
end

section
set_option autoImplicit false
set_option linter.all false
set_option maxHeartbeats 4000000
namespace PL
open PySem PySem.W PySem.SeqAt

/-! ## how values without places lie in a store -/
section
variable (Z : Nat → Prop) (s : S)
mutual
def rep : U → D → Prop
  | .non, d => d = .non
  | .bl b, d => d = .bl b
  | .int i, d => d = .int i
  | .str x, d => d = .str x
  | .tup vs, d => ∃ ds, d = .tup ds ∧ reps vs ds
  | .lst vs, d => ∃ a ds, d = .loc a ∧ Z a ∧ s a = some (.lst ds) ∧ reps vs ds
  | .rol vs, d => ∃ a ds, d = .loc a ∧ Z a ∧ s a = some (.rol ds) ∧ reps vs ds
  | .dic kvs, d => ∃ a ks, d = .loc a ∧ Z a ∧ s a = some (.dic ks) ∧ repk kvs ks
def reps : List U → List D → Prop
  | [], ds => ds = []
  | v :: vs, ds => ∃ d r, ds = d :: r ∧ rep v d ∧ reps vs r
def repk : List (U × U) → List (D × D) → Prop
  | [], ks => ks = []
  | (k, v) :: kvs, ks => ∃ c d r, ks = (c, d) :: r ∧ rep k c ∧ rep v d ∧ repk kvs r
end
def contO : U → O → Prop
  | .lst vs, .lst ds => reps Z s vs ds
  | .rol vs, .rol ds => reps Z s vs ds
  | .dic kvs, .dic ks => repk Z s kvs ks
  | _, _ => False
/-- it can be read -/
def rdb : U → D → Prop
  | .lst vs, d => ∃ a o, d = .loc a ∧ s a = some o ∧ contO Z s (.lst vs) o
  | .rol vs, d => ∃ a o, d = .loc a ∧ s a = some o ∧ contO Z s (.rol vs) o
  | .dic kvs, d => ∃ a o, d = .loc a ∧ s a = some o ∧ contO Z s (.dic kvs) o
  | .tup vs, d => ∃ ds, d = .tup ds ∧ reps Z s vs ds
  | .non, d => d = .non
  | .bl b, d => d = .bl b
  | .int i, d => d = .int i
  | .str x, d => d = .str x
end
section
variable {Z Z' : Nat → Prop} {s s' : S}
theorem rep.rd {v : U} {d : D} (h : rep Z s v d) : rdb Z s v d := by
  cases v <;> simp only [rep, rdb] at h ⊢ <;> try exact h
  · obtain ⟨a, ds, e, z, e1, r⟩ := h; exact ⟨a, _, e, e1, r⟩
  · obtain ⟨a, ds, e, z, e1, r⟩ := h; exact ⟨a, _, e, e1, r⟩
  · obtain ⟨a, ds, e, z, e1, r⟩ := h; exact ⟨a, _, e, e1, r⟩
mutual
theorem rep.to (hz : ∀ a, Z a → Z' a) (hs : ∀ a, Z a → s' a = s a) : ∀ {v : U} {d : D}, rep Z s v d → rep Z' s' v d
  | .non, d, h => h
  | .bl _, d, h => h
  | .int _, d, h => h
  | .str _, d, h => h
  | .tup vs, d, h => by
    simp only [rep] at h ⊢
    obtain ⟨ds, e, r⟩ := h
    exact ⟨ds, e, reps.to hz hs r⟩
  | .lst vs, d, h => by
    simp only [rep] at h ⊢
    obtain ⟨a, ds, e, z, e1, r⟩ := h
    exact ⟨a, ds, e, hz a z, by rw [hs a z]; exact e1, reps.to hz hs r⟩
  | .rol vs, d, h => by
    simp only [rep] at h ⊢
    obtain ⟨a, ds, e, z, e1, r⟩ := h
    exact ⟨a, ds, e, hz a z, by rw [hs a z]; exact e1, reps.to hz hs r⟩
  | .dic vs, d, h => by
    simp only [rep] at h ⊢
    obtain ⟨a, ds, e, z, e1, r⟩ := h
    exact ⟨a, ds, e, hz a z, by rw [hs a z]; exact e1, repk.to hz hs r⟩
theorem reps.to (hz : ∀ a, Z a → Z' a) (hs : ∀ a, Z a → s' a = s a) : ∀ {vs : List U} {ds : List D}, reps Z s vs ds → reps Z' s' vs ds
  | [], ds, h => h
  | v :: vs, ds, h => by
    simp only [reps] at h ⊢
    obtain ⟨d, r, e, h1, h2⟩ := h
    exact ⟨d, r, e, rep.to hz hs h1, reps.to hz hs h2⟩
theorem repk.to (hz : ∀ a, Z a → Z' a) (hs : ∀ a, Z a → s' a = s a) : ∀ {vs : List (U × U)} {ds : List (D × D)}, repk Z s vs ds → repk Z' s' vs ds
  | [], ds, h => h
  | (k, v) :: vs, ds, h => by
    simp only [repk] at h ⊢
    obtain ⟨c, d, r, e, h0, h1, h2⟩ := h
    exact ⟨c, d, r, e, rep.to hz hs h0, rep.to hz hs h1, repk.to hz hs h2⟩
end
theorem contO.to (hz : ∀ a, Z a → Z' a) (hs : ∀ a, Z a → s' a = s a) {v : U} {o : O} (h : contO Z s v o) : contO Z' s' v o := by
  cases v <;> cases o <;> simp only [contO] at h ⊢
  · exact reps.to hz hs h
  · exact reps.to hz hs h
  · exact repk.to hz hs h
theorem reps.nil : reps Z s [] [] := by simp only [reps]
theorem reps.cons {v : U} {d : D} {vs : List U} {ds : List D} (h : rep Z s v d) (r : reps Z s vs ds) : reps Z s (v :: vs) (d :: ds) := by
  simp only [reps]; exact ⟨d, ds, rfl, h, r⟩
theorem reps.len : ∀ {vs : List U} {ds : List D}, reps Z s vs ds → vs.length = ds.length
  | [], ds, h => by simp only [reps] at h; subst h; rfl
  | v :: vs, ds, h => by
    simp only [reps] at h
    obtain ⟨d, r, rfl, _, t⟩ := h
    simp [reps.len t]
theorem reps.app : ∀ {vs ws : List U} {ds es : List D}, reps Z s vs ds → reps Z s ws es → reps Z s (vs ++ ws) (ds ++ es)
  | [], ws, ds, es, h, h' => by simp only [reps] at h; subst h; exact h'
  | v :: vs, ws, ds, es, h, h' => by
    simp only [reps] at h
    obtain ⟨d, r, rfl, q, t⟩ := h
    exact reps.cons q (reps.app t h')
theorem reps.one {v : U} {d : D} (h : rep Z s v d) : reps Z s [v] [d] := reps.cons h reps.nil
theorem reps.take : ∀ (n : Nat) {vs : List U} {ds : List D}, reps Z s vs ds → reps Z s (vs.take n) (ds.take n)
  | 0, vs, ds, h => by simp only [List.take_zero]; exact reps.nil
  | n + 1, [], ds, h => by simp only [reps] at h; subst h; exact reps.nil
  | n + 1, v :: vs, ds, h => by
    simp only [reps] at h
    obtain ⟨d, r, rfl, q, t⟩ := h
    exact reps.cons q (reps.take n t)
theorem reps.drop : ∀ (n : Nat) {vs : List U} {ds : List D}, reps Z s vs ds → reps Z s (vs.drop n) (ds.drop n)
  | 0, vs, ds, h => h
  | n + 1, [], ds, h => by simp only [reps] at h; subst h; exact reps.nil
  | n + 1, v :: vs, ds, h => by
    simp only [reps] at h
    obtain ⟨d, r, rfl, q, t⟩ := h
    exact reps.drop n t
theorem reps.at : ∀ {i : Nat} {vs : List U} {ds : List D} {v : U}, reps Z s vs ds → vs[i]? = some v → ∃ d, ds[i]? = some d ∧ rep Z s v d
  | i, [], ds, v, h, e => by simp at e
  | 0, v :: vs, ds, w, h, e => by
    simp only [reps] at h
    obtain ⟨d, r, rfl, q, t⟩ := h
    simp at e; subst e
    exact ⟨d, rfl, q⟩
  | i + 1, v :: vs, ds, w, h, e => by
    simp only [reps] at h
    obtain ⟨d, r, rfl, q, t⟩ := h
    exact reps.at (i := i) t (by simpa using e)
theorem reps.set {w : U} {e : D} (q : rep Z s w e) : ∀ (i : Nat) {vs : List U} {ds : List D}, reps Z s vs ds → reps Z s (vs.set i w) (ds.set i e)
  | i, [], ds, h => by simp only [reps] at h; subst h; exact reps.nil
  | 0, v :: vs, ds, h => by
    simp only [reps] at h
    obtain ⟨d, r, rfl, _, t⟩ := h
    exact reps.cons q t
  | i + 1, v :: vs, ds, h => by
    simp only [reps] at h
    obtain ⟨d, r, rfl, q', t⟩ := h
    exact reps.cons q' (reps.set q i t)
theorem reps.erase : ∀ (i : Nat) {vs : List U} {ds : List D}, reps Z s vs ds → reps Z s (vs.eraseIdx i) (ds.eraseIdx i)
  | i, [], ds, h => by simp only [reps] at h; subst h; exact reps.nil
  | 0, v :: vs, ds, h => by
    simp only [reps] at h
    obtain ⟨d, r, rfl, _, t⟩ := h
    exact t
  | i + 1, v :: vs, ds, h => by
    simp only [reps] at h
    obtain ⟨d, r, rfl, q', t⟩ := h
    exact reps.cons q' (reps.erase i t)
theorem reps.rev : ∀ {vs : List U} {ds : List D}, reps Z s vs ds → reps Z s vs.reverse ds.reverse
  | [], ds, h => by simp only [reps] at h; subst h; exact reps.nil
  | v :: vs, ds, h => by
    simp only [reps] at h
    obtain ⟨d, r, rfl, q, t⟩ := h
    rw [List.reverse_cons, List.reverse_cons]
    exact reps.app (reps.rev t) (reps.one q)
theorem reps.fl {vs : List U} {ds : List D} (h : reps Z s vs ds) : ∀ k : Nat, reps Z s (List.replicate k vs).flatten (List.replicate k ds).flatten
  | 0 => reps.nil
  | k + 1 => by
    simp only [List.replicate_succ, List.flatten_cons]
    exact reps.app h (reps.fl h k)
theorem reps.map {α : Type} {f : α → U} {g : α → D} : ∀ {xs : List α}, (∀ x ∈ xs, rep Z s (f x) (g x)) → reps Z s (xs.map f) (xs.map g)
  | [], _ => reps.nil
  | x :: xs, h => reps.cons (h x (by simp)) (reps.map fun y hy => h y (by simp [hy]))
theorem reps.emp {vs : List U} {ds : List D} (h : reps Z s vs ds) : ds.isEmpty = vs.isEmpty := by
  cases vs with
  | nil => simp only [reps] at h; subst h; rfl
  | cons v vs => simp only [reps] at h; obtain ⟨d, r, rfl, _⟩ := h; rfl
theorem reps.dropLast : ∀ {vs : List U} {ds : List D}, reps Z s vs ds → reps Z s vs.dropLast ds.dropLast
  | vs, ds, h => by
    rw [List.dropLast_eq_take, List.dropLast_eq_take, ← h.len]
    exact h.take _
theorem reps.cut {vs : List U} {ds : List D} (h : reps Z s vs ds) (lo hi : Option Int) : reps Z s (cutD vs lo hi) (cutD ds lo hi) := by
  unfold cutD
  rw [← h.len]
  exact (h.drop _).take _
theorem repk.len : ∀ {vs : List (U × U)} {ds : List (D × D)}, repk Z s vs ds → vs.length = ds.length
  | [], ds, h => by simp only [repk] at h; subst h; rfl
  | (k, v) :: vs, ds, h => by
    simp only [repk] at h
    obtain ⟨c, d, r, rfl, _, _, t⟩ := h
    simp [repk.len t]
theorem repk.emp {vs : List (U × U)} {ds : List (D × D)} (h : repk Z s vs ds) : ds.isEmpty = vs.isEmpty := by
  cases vs with
  | nil => simp only [repk] at h; subst h; rfl
  | cons v vs => obtain ⟨k, v⟩ := v; simp only [repk] at h; obtain ⟨c, d, r, rfl, _⟩ := h; rfl
theorem repk.items : ∀ {vs : List (U × U)} {ds : List (D × D)}, repk Z s vs ds → reps Z s (vs.map fun kv => .tup [kv.1, kv.2]) (ds.map fun kv => .tup [kv.1, kv.2])
  | [], ds, h => by simp only [repk] at h; subst h; exact reps.nil
  | (k, v) :: vs, ds, h => by
    simp only [repk] at h
    obtain ⟨c, d, r, rfl, q1, q2, t⟩ := h
    refine reps.cons ?_ (repk.items t)
    simp only [rep]
    exact ⟨[c, d], rfl, reps.cons q1 (reps.one q2)⟩
theorem reps.zip : ∀ {vs ws : List U} {ds es : List D}, reps Z s vs ds → reps Z s ws es → reps Z s ((vs.zip ws).map fun p => .tup [p.1, p.2]) ((ds.zip es).map fun p => .tup [p.1, p.2])
  | [], ws, ds, es, h, h' => by simp only [reps] at h; subst h; exact reps.nil
  | v :: vs, [], ds, es, h, h' => by simp only [reps] at h'; subst h'; simp only [List.zip_nil_right, List.map_nil]; exact reps.nil
  | v :: vs, w :: ws, ds, es, h, h' => by
    simp only [reps] at h h'
    obtain ⟨d, r, rfl, q, t⟩ := h
    obtain ⟨e, r', rfl, q', t'⟩ := h'
    refine reps.cons ?_ (reps.zip t t')
    simp only [rep]
    exact ⟨[d, e], rfl, reps.cons q (reps.one q')⟩
theorem repk.zip : ∀ {ks : List Str} {vs : List U} {ds : List D}, reps Z s vs ds → repk Z s ((ks.map U.str).zip vs) ((ks.map D.str).zip ds)
  | [], vs, ds, h => by simp [repk]
  | k :: ks, [], ds, h => by simp only [reps] at h; subst h; simp [repk]
  | k :: ks, v :: vs, ds, h => by
    simp only [reps] at h
    obtain ⟨d, r, rfl, q, t⟩ := h
    simp only [List.map_cons, List.zip_cons_cons, repk]
    exact ⟨_, _, _, rfl, by simp only [rep], q, repk.zip t⟩
/-! ### whole numbers, truth values -/
theorem reps.ints : ∀ {vs : List U} {ds : List D} {ns : List Int}, reps Z s vs ds → vs.mapM uInt = some ns → ds = ns.map D.int
  | [], ds, ns, h, e => by simp only [reps] at h; subst h; simp at e; subst e; rfl
  | v :: vs, ds, ns, h, e => by
    simp only [reps] at h
    obtain ⟨d, r, rfl, q, t⟩ := h
    rw [List.mapM_cons] at e
    cases hv : uInt v with
    | none => rw [hv] at e; simp at e
    | some n =>
      cases hr : vs.mapM uInt with
      | none => rw [hv, hr] at e; simp at e
      | some ms =>
        rw [hv, hr] at e; simp at e; subst e
        cases v <;> simp only [uInt, Option.some.injEq, reduceCtorEq] at hv
        subst hv
        simp only [rep] at q
        rw [q, reps.ints t hr]; rfl
theorem reps.bls : ∀ {vs : List U} {ds : List D} {ns : List Bool}, reps Z s vs ds → vs.mapM uBl = some ns → ds = ns.map D.bl
  | [], ds, ns, h, e => by simp only [reps] at h; subst h; simp at e; subst e; rfl
  | v :: vs, ds, ns, h, e => by
    simp only [reps] at h
    obtain ⟨d, r, rfl, q, t⟩ := h
    rw [List.mapM_cons] at e
    cases hv : uBl v with
    | none => rw [hv] at e; simp at e
    | some n =>
      cases hr : vs.mapM uBl with
      | none => rw [hv, hr] at e; simp at e
      | some ms =>
        rw [hv, hr] at e; simp at e; subst e
        cases v <;> simp only [uBl, Option.some.injEq, reduceCtorEq] at hv
        subst hv
        simp only [rep] at q
        rw [q, reps.bls t hr]; rfl
/-! ### data -/
theorem mapM_cons_inv {α β : Type} {f : α → Option β} {x : α} {xs : List α} {ys : List β} (h : (x :: xs).mapM f = some ys) : ∃ y r, f x = some y ∧ xs.mapM f = some r ∧ ys = y :: r := by
  rw [List.mapM_cons] at h
  cases h1 : f x with
  | none => rw [h1] at h; simp at h
  | some y =>
    cases h2 : xs.mapM f with
    | none => rw [h1, h2] at h; simp at h
    | some r => rw [h1, h2] at h; simp at h; exact ⟨y, r, rfl, rfl, h.symm⟩
theorem mapM_cons_mk {α β : Type} {f : α → Option β} {x : α} {xs : List α} {y : β} {r : List β} (h1 : f x = some y) (h2 : xs.mapM f = some r) : (x :: xs).mapM f = some (y :: r) := by
  rw [List.mapM_cons, h1, h2]; rfl
theorem reps.mapM {n : Nat} (ih : ∀ (v : U) (d : D) (a : PyData), rep Z s v d → datU n v = some a → dat s n d = some a) : ∀ {vs : List U} {ds : List D} {as : List PyData}, reps Z s vs ds → vs.mapM (datU n) = some as → ds.mapM (dat s n) = some as
  | [], ds, as, h, e => by simp only [reps] at h; subst h; simp at e; subst e; rfl
  | v :: vs, ds, as, h, e => by
    simp only [reps] at h
    obtain ⟨d, r, rfl, q, t⟩ := h
    obtain ⟨y, r', h1, h2, rfl⟩ := mapM_cons_inv e
    exact mapM_cons_mk (ih v d y q h1) (reps.mapM ih t h2)
theorem rdb.dat : ∀ (n : Nat) (v : U) (d : D) (a : PyData), rdb Z s v d → datU n v = some a → dat s n d = some a
  | n, .non, d, a, h, e => by simp only [rdb] at h; subst h; cases n <;> simp only [datU, Option.some.injEq] at e <;> subst e <;> simp only [PL.dat]
  | n, .bl b, d, a, h, e => by simp only [rdb] at h; subst h; cases n <;> simp only [datU, Option.some.injEq] at e <;> subst e <;> simp only [PL.dat]
  | n, .int b, d, a, h, e => by simp only [rdb] at h; subst h; cases n <;> simp only [datU, Option.some.injEq] at e <;> subst e <;> simp only [PL.dat]
  | n, .str b, d, a, h, e => by simp only [rdb] at h; subst h; cases n <;> simp only [datU, Option.some.injEq] at e <;> subst e <;> simp only [PL.dat]
  | n, .dic b, d, a, h, e => by cases n <;> simp [datU] at e
  | 0, .tup b, d, a, h, e => by simp [datU] at e
  | 0, .lst b, d, a, h, e => by simp [datU] at e
  | 0, .rol b, d, a, h, e => by simp [datU] at e
  | n + 1, .tup vs, d, a, h, e => by
    simp only [rdb] at h
    obtain ⟨ds, rfl, r⟩ := h
    simp only [datU] at e
    obtain ⟨as, e1, rfl⟩ := Option.map_eq_some_iff.mp e
    simp only [PL.dat]
    rw [reps.mapM (fun v d a q => rdb.dat n v d a q.rd) r e1]; rfl
  | n + 1, .lst vs, d, a, h, e => by
    simp only [rdb] at h
    obtain ⟨p, o, rfl, e0, r⟩ := h
    simp only [datU] at e
    obtain ⟨as, e1, rfl⟩ := Option.map_eq_some_iff.mp e
    cases o <;> simp only [contO] at r
    simp only [PL.dat]
    unfold seqAt
    rw [e0]
    simp only
    rw [reps.mapM (fun v d a q => rdb.dat n v d a q.rd) r e1]; rfl
  | n + 1, .rol vs, d, a, h, e => by
    simp only [rdb] at h
    obtain ⟨p, o, rfl, e0, r⟩ := h
    simp only [datU] at e
    obtain ⟨as, e1, rfl⟩ := Option.map_eq_some_iff.mp e
    cases o <;> simp only [contO] at r
    simp only [PL.dat]
    unfold seqAt
    rw [e0]
    simp only
    rw [reps.mapM (fun v d a q => rdb.dat n v d a q.rd) r e1]; rfl
theorem reps.dats {n : Nat} {vs : List U} {ds : List D} {as : List PyData} (h : reps Z s vs ds) (e : vs.mapM (datU n) = some as) : ds.mapM (dat s n) = some as := reps.mapM (fun v d a q => rdb.dat n v d a q.rd) h e
/-! ### flat values -/
theorem flat_eq : ∀ (n : Nat) (v : U) (d : D), okU n v = true → rep Z s v d → d = flatD n v
  | n, .non, d, _, h => by simp only [rep] at h; subst h; cases n <;> simp only [flatD]
  | n, .int _, d, _, h => by simp only [rep] at h; subst h; cases n <;> simp only [flatD]
  | n, .str _, d, _, h => by simp only [rep] at h; subst h; cases n <;> simp only [flatD]
  | n, .bl _, d, e, _ => by cases n <;> simp [okU] at e
  | n, .lst _, d, e, _ => by cases n <;> simp [okU] at e
  | n, .rol _, d, e, _ => by cases n <;> simp [okU] at e
  | n, .dic _, d, e, _ => by cases n <;> simp [okU] at e
  | 0, .tup _, d, e, _ => by simp [okU] at e
  | n + 1, .tup vs, d, e, h => by
    simp only [rep] at h
    obtain ⟨ds, rfl, r⟩ := h
    simp only [okU, List.all_eq_true] at e
    simp only [flatD]
    congr 1
    have go : ∀ (vs : List U) (ds : List D), (∀ v ∈ vs, okU n v = true) → reps Z s vs ds → ds = vs.map (flatD n) := by
      intro vs
      induction vs with
      | nil => intro ds _ h; simp only [reps] at h; rw [h]; rfl
      | cons v vs ih =>
        intro ds ho h
        simp only [reps] at h
        obtain ⟨d, r, rfl, q, t⟩ := h
        rw [List.map_cons, ← flat_eq n v d (ho v (by simp)) q, ← ih r (fun w hw => ho w (by simp [hw])) t]
    exact go vs ds e r
theorem flats_eq {n : Nat} : ∀ {vs : List U} {ds : List D}, (∀ v ∈ vs, okU n v = true) → reps Z s vs ds → ds = vs.map (flatD n)
  | [], ds, _, h => by simp only [reps] at h; rw [h]; rfl
  | v :: vs, ds, ho, h => by
    simp only [reps] at h
    obtain ⟨d, r, rfl, q, t⟩ := h
    rw [List.map_cons, ← flat_eq n v d (ho v (by simp)) q, ← flats_eq (fun w hw => ho w (by simp [hw])) t]
theorem flat_rep : ∀ (n : Nat) (v : U), okU n v = true → rep Z s v (flatD n v)
  | n, .non, _ => by cases n <;> simp only [flatD, rep]
  | n, .int _, _ => by cases n <;> simp only [flatD, rep]
  | n, .str _, _ => by cases n <;> simp only [flatD, rep]
  | n, .bl _, e => by cases n <;> simp [okU] at e
  | n, .lst _, e => by cases n <;> simp [okU] at e
  | n, .rol _, e => by cases n <;> simp [okU] at e
  | n, .dic _, e => by cases n <;> simp [okU] at e
  | 0, .tup _, e => by simp [okU] at e
  | n + 1, .tup vs, e => by
    simp only [okU, List.all_eq_true] at e
    simp only [flatD, rep]
    exact ⟨_, rfl, by
      rw [show vs = vs.map id from (List.map_id vs).symm, List.map_map]
      exact reps.map fun v hv => flat_rep n v (e v hv)⟩
theorem datU_ok : ∀ (n : Nat) (v : U) (m : Nat), okU n v = true → n ≤ m → datU m v = some (dU v)
  | n, .non, m, _, _ => by cases m <;> simp only [datU, dU]
  | n, .int _, m, _, _ => by cases m <;> simp only [datU, dU]
  | n, .str _, m, _, _ => by cases m <;> simp only [datU, dU]
  | n, .bl _, m, e, _ => by cases n <;> simp [okU] at e
  | n, .lst _, m, e, _ => by cases n <;> simp [okU] at e
  | n, .rol _, m, e, _ => by cases n <;> simp [okU] at e
  | n, .dic _, m, e, _ => by cases n <;> simp [okU] at e
  | 0, .tup _, m, e, _ => by simp [okU] at e
  | n + 1, .tup vs, 0, e, h => by omega
  | n + 1, .tup vs, m + 1, e, h => by
    simp only [okU, List.all_eq_true] at e
    simp only [datU, dU]
    have go : ∀ vs : List U, (∀ v ∈ vs, okU n v = true) → vs.mapM (datU m) = some (dUs vs) := by
      intro vs
      induction vs with
      | nil => intro _; rfl
      | cons v vs ih => intro ho; rw [mapM_cons_mk (datU_ok n v m (ho v (by simp)) (by omega)) (ih fun w hw => ho w (by simp [hw]))]; rfl
    rw [go vs e]; rfl
theorem dUs_map : ∀ vs : List U, dUs vs = vs.map dU
  | [] => rfl
  | v :: vs => by simp only [dUs, dUs_map vs, List.map_cons]
theorem datUs_ok {n m : Nat} (h : n ≤ m) : ∀ {vs : List U}, (∀ v ∈ vs, okU n v = true) → vs.mapM (datU m) = some (vs.map dU)
  | [], _ => rfl
  | v :: vs, ho => by
    rw [mapM_cons_mk (datU_ok n v m (ho v (by simp)) h) (datUs_ok h fun w hw => ho w (by simp [hw]))]; rfl
/-- values that can be told apart by their data -/
theorem dU_inj : ∀ (n : Nat) (v w : U), okU n v = true → okU n w = true → dU v = dU w → v = w
  | n, .bl _, _, e, _, _ => by cases n <;> simp [okU] at e
  | n, .lst _, _, e, _, _ => by cases n <;> simp [okU] at e
  | n, .rol _, _, e, _, _ => by cases n <;> simp [okU] at e
  | n, .dic _, _, e, _, _ => by cases n <;> simp [okU] at e
  | n, .non, w, _, e, h => by cases w <;> first | rfl | (cases n <;> simp [okU] at e; done) | (simp [dU] at h)
  | n, .int i, w, _, e, h => by cases w <;> first | (cases n <;> simp [okU] at e; done) | (simp [dU] at h; done) | (simp only [dU, PyData.int.injEq] at h; rw [h])
  | n, .str i, w, _, e, h => by cases w <;> first | (cases n <;> simp [okU] at e; done) | (simp [dU] at h; done) | (simp only [dU, PyData.str.injEq] at h; rw [h])
  | 0, .tup _, w, e, _, _ => by simp [okU] at e
  | n + 1, .tup vs, w, e, e', h => by
    cases w with
    | tup ws =>
      simp only [dU, PyData.tuple.injEq] at h
      simp only [okU, List.all_eq_true] at e e'
      congr 1
      have go : ∀ vs ws : List U, (∀ v ∈ vs, okU n v = true) → (∀ v ∈ ws, okU n v = true) → dUs vs = dUs ws → vs = ws := by
        intro vs
        induction vs with
        | nil => intro ws _ _ h; cases ws with
          | nil => rfl
          | cons _ _ => simp [dUs] at h
        | cons v vs ih => intro ws h1 h2 h; cases ws with
          | nil => simp [dUs] at h
          | cons w ws =>
            simp only [dUs, List.cons.injEq] at h
            rw [dU_inj n v w (h1 v (by simp)) (h2 w (by simp)) h.1, ih ws (fun x hx => h1 x (by simp [hx])) (fun x hx => h2 x (by simp [hx])) h.2]
      exact go vs ws e e' h
    | _ => first | (simp [dU] at h; done) | (simp [okU] at e')
end
end PL
end

section
set_option autoImplicit false
set_option linter.all false
set_option maxHeartbeats 4000000
namespace PL
open PySem PySem.W PySem.SeqAt

/-! ## what the primitives give -/
/-- what is asked for a value: a container is new -/
def Res (Z : Nat → Prop) (s : S) (v : U) (Q : Post) : Prop :=
  if isC v = true then ∀ p o, s p = none → contO Z s v o → Q (.loc p) (s.up p o) else ∀ d, rep Z s v d → Q d s
section
variable {Z : Nat → Prop} {s : S} {Q : Post}
theorem Res.sc {v : U} {d : D} (h : Res Z s v Q) (hc : isC v = false) (r : rep Z s v d) : Q d s := by
  unfold Res at h; rw [if_neg (by rw [hc]; simp)] at h; exact h d r
theorem Res.int {i : Int} (h : Res Z s (.int i) Q) : Q (.int i) s := h.sc rfl (by simp only [rep])
theorem Res.bl {i : Bool} (h : Res Z s (.bl i) Q) : Q (.bl i) s := h.sc rfl (by simp only [rep])
theorem Res.str {i : Str} (h : Res Z s (.str i) Q) : Q (.str i) s := h.sc rfl (by simp only [rep])
theorem Res.tup {vs : List U} {ds : List D} (h : Res Z s (.tup vs) Q) (r : reps Z s vs ds) : Q (.tup ds) s := h.sc rfl (by simp only [rep]; exact ⟨ds, rfl, r⟩)
theorem Res.lst {vs : List U} {ds : List D} (h : Res Z s (.lst vs) Q) (r : reps Z s vs ds) : newO (.lst ds) s Q := fun p hp => by
  unfold Res at h; rw [if_pos (by rfl)] at h; exact h p _ hp (by simpa only [contO] using r)
theorem Res.dic {vs : List (U × U)} {ds : List (D × D)} (h : Res Z s (.dic vs) Q) (r : repk Z s vs ds) : newO (.dic ds) s Q := fun p hp => by
  unfold Res at h; rw [if_pos (by rfl)] at h; exact h p _ hp (by simpa only [contO] using r)
theorem rdb.lstI {vs : List U} {d : D} (h : rdb Z s (.lst vs) d) : ∃ a ds, d = .loc a ∧ s a = some (.lst ds) ∧ reps Z s vs ds := by
  simp only [rdb] at h
  obtain ⟨a, o, e, e1, r⟩ := h
  cases o <;> simp only [contO] at r
  exact ⟨a, _, e, e1, r⟩
theorem rdb.rolI {vs : List U} {d : D} (h : rdb Z s (.rol vs) d) : ∃ a ds, d = .loc a ∧ s a = some (.rol ds) ∧ reps Z s vs ds := by
  simp only [rdb] at h
  obtain ⟨a, o, e, e1, r⟩ := h
  cases o <;> simp only [contO] at r
  exact ⟨a, _, e, e1, r⟩
theorem rdb.dicI {vs : List (U × U)} {d : D} (h : rdb Z s (.dic vs) d) : ∃ a ds, d = .loc a ∧ s a = some (.dic ds) ∧ repk Z s vs ds := by
  simp only [rdb] at h
  obtain ⟨a, o, e, e1, r⟩ := h
  cases o <;> simp only [contO] at r
  exact ⟨a, _, e, e1, r⟩
theorem rdb.tupI {vs : List U} {d : D} (h : rdb Z s (.tup vs) d) : ∃ ds, d = .tup ds ∧ reps Z s vs ds := by simpa only [rdb] using h
theorem rdb.intI {i : Int} {d : D} (h : rdb Z s (.int i) d) : d = .int i := by simpa only [rdb] using h
theorem rdb.blI {i : Bool} {d : D} (h : rdb Z s (.bl i) d) : d = .bl i := by simpa only [rdb] using h
theorem rdb.strI {i : Str} {d : D} (h : rdb Z s (.str i) d) : d = .str i := by simpa only [rdb] using h
theorem rdb.nonI {d : D} (h : rdb Z s .non d) : d = .non := by simpa only [rdb] using h
/-- no container: told wholly -/
theorem rdb.sc {v : U} {d : D} (h : rdb Z s v d) (hc : isC v = false) (hr : ∀ xs, v ≠ .rol xs) : rep Z s v d := by
  cases v <;> simp only [rep, rdb, isC, Bool.true_eq_false] at * <;> first | exact h | exact absurd rfl (hr _)
theorem rdb.items {v : U} {d : D} {xs : List U} (h : rdb Z s v d) (e : itemsU v = some xs) : ∃ ds, itemsOf s d = some ds ∧ reps Z s xs ds := by
  cases v <;> simp only [itemsU, Option.some.injEq, reduceCtorEq] at e <;> subst e
  · obtain ⟨ds, rfl, r⟩ := h.tupI; exact ⟨ds, rfl, r⟩
  · obtain ⟨a, ds, rfl, e, r⟩ := h.lstI; exact ⟨ds, by simp only [itemsOf, seqAt, e], r⟩
  · obtain ⟨a, ds, rfl, e, r⟩ := h.rolI; exact ⟨ds, by simp only [itemsOf, seqAt, e], r⟩
theorem tru_of {v : U} {d : D} {b : Bool} (h : rdb Z s v d) (e : truU v = some b) : tru s d = some b := by
  cases v <;> simp only [truU] at e
  · rw [h.nonI]; exact e
  · rw [h.blI]; exact e
  · rw [h.intI]; exact e
  · rw [h.strI]; exact e
  · obtain ⟨ds, rfl, r⟩ := h.tupI; simp only [tru]; rw [r.emp]; exact e
  · obtain ⟨a, ds, rfl, e1, r⟩ := h.lstI; simp only [tru, e1]; rw [r.emp]; exact e
  · obtain ⟨a, ds, rfl, e1, r⟩ := h.rolI; simp only [tru, e1]; rw [r.emp]; exact e
  · obtain ⟨a, ds, rfl, e1, r⟩ := h.dicI; simp only [tru, e1]; rw [r.emp]; exact e
theorem p_bin {op : Op} {x y v : U} {dx dy : D} (hx : rdb Z s x dx) (hy : rdb Z s y dy) (e : ubin op x y = some v) (q : Res Z s v Q) : wpBin op dx dy s Q := by
  unfold ubin at e
  split at e
  · rw [hx.intI, hy.intI]; cases e; exact q.int
  · rw [hx.strI, hy.strI]
    split at e
    · next h => cases e; exact ⟨h, q.str⟩
    · cases e
  · obtain ⟨ds, rfl, r⟩ := hx.tupI
    obtain ⟨es, rfl, r'⟩ := hy.tupI
    split at e
    · next h => cases e; exact ⟨by rw [← r.len, ← r'.len]; exact h, q.tup (r.app r')⟩
    · cases e
  · obtain ⟨a, ds, rfl, e1, r⟩ := hx.lstI
    obtain ⟨b, es, rfl, e2, r'⟩ := hy.lstI
    split at e
    · next h => cases e; exact ⟨ds, es, e1, e2, by rw [← r.len, ← r'.len]; exact h, q.lst (r.app r')⟩
    · cases e
  · rw [hx.intI, hy.intI]; cases e; exact q.int
  · rw [hx.intI, hy.intI]
    split at e
    · next h => cases e; exact ⟨h, q.int⟩
    · cases e
  · obtain ⟨a, ds, rfl, e1, r⟩ := hx.lstI
    rw [hy.intI]
    split at e
    · next h => cases e; exact ⟨ds, e1, h.1, h.2.1, by rw [← r.len]; exact h.2.2, q.lst (r.fl _)⟩
    · cases e
  · obtain ⟨ds, rfl, r⟩ := hx.tupI
    rw [hy.intI]
    split at e
    · next h =>
      cases e
      refine ⟨?_, h.2.1, h.2.2.1, by rw [← r.len]; exact h.2.2.2, q.tup (r.fl _)⟩
      rintro rfl
      have := r.len
      exact h.1 (List.length_eq_zero_iff.mp this)
    · cases e
  · rw [hx.intI, hy.intI]
    split at e
    · next h => cases e; exact ⟨h, q.int⟩
    · cases e
  · rw [hx.intI, hy.intI]
    split at e
    · next h => cases e; exact ⟨h, q.int⟩
    · cases e
  · rw [hx.intI, hy.intI]
    split at e
    · next h => cases e; exact ⟨h, q.int⟩
    · cases e
  · rw [hx.intI, hy.intI]
    split at e
    · next h => cases e; exact ⟨h, q.int⟩
    · cases e
  · rw [hx.intI, hy.intI]
    split at e
    · next h => cases e; exact ⟨h, q.int⟩
    · cases e
  · rw [hx.intI, hy.intI]
    split at e
    · next h => cases e; exact ⟨h.1, h.2, q.int⟩
    · cases e
  · cases e
theorem p_aug {op : Op} {x y v : U} {dx dy : D} (hx : rdb Z s x dx) (hy : rdb Z s y dy) (e : uaug op x y = some v) (q : ∀ d, rep Z s v d → Q d s) : wpAug op dx dy s Q := by
  unfold uaug at e
  split at e
  · rw [hx.intI, hy.intI]; cases e; exact q _ (by simp only [rep])
  · rw [hx.intI, hy.intI]; cases e; exact q _ (by simp only [rep])
  · cases e
/-! ### dicts -/
theorem key_flat {v : U} {d : D} (h : rep Z s v d) (k : keyU v = true) : keyD d = true := by
  cases v <;> simp only [keyU, Bool.false_eq_true] at k
  · rw [h.rd.intI]; rfl
  · rw [h.rd.strI]; rfl
theorem key_beq : ∀ {c : U} {dc : D} {k : U} {dk : D}, rep Z s c dc → rep Z s k dk → keyU k = true → D.beq dc dk = U.beq c k := by
  intro c dc k dk hc hk kk
  cases k <;> simp only [keyU, Bool.false_eq_true] at kk
  · rw [hk.rd.intI]
    cases c
    case int => rw [hc.rd.intI]; rfl
    case non => rw [hc.rd.nonI]; rfl
    case bl => rw [hc.rd.blI]; rfl
    case str => rw [hc.rd.strI]; rfl
    case tup => obtain ⟨_, rfl, _⟩ := hc.rd.tupI; rfl
    case lst => obtain ⟨_, _, rfl, _⟩ := hc.rd.lstI; rfl
    case rol => obtain ⟨_, _, rfl, _⟩ := hc.rd.rolI; rfl
    case dic => obtain ⟨_, _, rfl, _⟩ := hc.rd.dicI; rfl
  · rw [hk.rd.strI]
    cases c
    case int => rw [hc.rd.intI]; rfl
    case non => rw [hc.rd.nonI]; rfl
    case bl => rw [hc.rd.blI]; rfl
    case str => rw [hc.rd.strI]; rfl
    case tup => obtain ⟨_, rfl, _⟩ := hc.rd.tupI; rfl
    case lst => obtain ⟨_, _, rfl, _⟩ := hc.rd.lstI; rfl
    case rol => obtain ⟨_, _, rfl, _⟩ := hc.rd.rolI; rfl
    case dic => obtain ⟨_, _, rfl, _⟩ := hc.rd.dicI; rfl
theorem dget_cons {a b : D} {r : List (D × D)} {k : D} : dget ((a, b) :: r) k = if D.beq a k = true then some b else dget r k := by
  unfold dget
  rw [List.find?_cons]
  cases h : D.beq a k <;> simp
theorem uget_cons {a b : U} {r : List (U × U)} {k : U} : uget ((a, b) :: r) k = if U.beq a k = true then some b else uget r k := by
  unfold uget
  rw [List.find?_cons]
  cases h : U.beq a k <;> simp
theorem get_of {k : U} {dk : D} (hk : rep Z s k dk) (kk : keyU k = true) : ∀ {kvs : List (U × U)} {ks : List (D × D)}, repk Z s kvs ks → (∀ v, uget kvs k = some v → ∃ d, dget ks dk = some d ∧ rep Z s v d) ∧ (uget kvs k = none → dget ks dk = none)
  | [], ks, h => by
    simp only [repk] at h; subst h
    exact ⟨fun v e => by simp [uget] at e, fun _ => rfl⟩
  | (c, v) :: kvs, ks, h => by
    simp only [repk] at h
    obtain ⟨dc, dv, r, rfl, hc, hv, t⟩ := h
    obtain ⟨i1, i2⟩ := get_of hk kk t
    rw [uget_cons, dget_cons, key_beq hc hk kk]
    split
    · exact ⟨fun w e => by cases e; exact ⟨dv, rfl, hv⟩, fun e => by cases e⟩
    · exact ⟨i1, i2⟩
theorem isSome_of {k : U} {dk : D} (hk : rep Z s k dk) (kk : keyU k = true) {kvs : List (U × U)} {ks : List (D × D)} (h : repk Z s kvs ks) : (dget ks dk).isSome = (uget kvs k).isSome := by
  obtain ⟨i1, i2⟩ := get_of hk kk h
  cases e : uget kvs k with
  | none => rw [i2 e]; rfl
  | some v => obtain ⟨d, e1, _⟩ := i1 v e; rw [e1]; rfl
theorem any_of {k : U} {dk : D} (hk : rep Z s k dk) (kk : keyU k = true) : ∀ {kvs : List (U × U)} {ks : List (D × D)}, repk Z s kvs ks → (ks.any fun kv => D.beq kv.1 dk) = (kvs.any fun kv => U.beq kv.1 k)
  | [], ks, h => by simp only [repk] at h; subst h; rfl
  | (c, v) :: kvs, ks, h => by
    simp only [repk] at h
    obtain ⟨dc, dv, r, rfl, hc, hv, t⟩ := h
    rw [List.any_cons, List.any_cons, any_of hk kk t, key_beq hc hk kk]
theorem put_map {k v : U} {dk dv : D} (hk : rep Z s k dk) (hv : rep Z s v dv) (kk : keyU k = true) : ∀ {kvs : List (U × U)} {ks : List (D × D)}, repk Z s kvs ks → repk Z s (kvs.map fun kv => if U.beq kv.1 k then (kv.1, v) else kv) (ks.map fun kv => if D.beq kv.1 dk then (kv.1, dv) else kv)
  | [], ks, h => by simp only [repk] at h; subst h; simp [repk]
  | (c, w) :: kvs, ks, h => by
    simp only [repk] at h
    obtain ⟨dc, dw, r, rfl, hc, hw, t⟩ := h
    rw [List.map_cons, List.map_cons]
    simp only [key_beq hc hk kk]
    split
    · simp only [repk]; exact ⟨_, _, _, rfl, hc, hv, put_map hk hv kk t⟩
    · simp only [repk]; exact ⟨_, _, _, rfl, hc, hw, put_map hk hv kk t⟩
theorem repk.snoc {k v : U} {dk dv : D} (hk : rep Z s k dk) (hv : rep Z s v dv) : ∀ {kvs : List (U × U)} {ks : List (D × D)}, repk Z s kvs ks → repk Z s (kvs ++ [(k, v)]) (ks ++ [(dk, dv)])
  | [], ks, h => by simp only [repk] at h; subst h; simp only [List.nil_append, repk]; exact ⟨_, _, _, rfl, hk, hv, rfl⟩
  | (c, w) :: kvs, ks, h => by
    simp only [repk] at h
    obtain ⟨dc, dw, r, rfl, hc, hw, t⟩ := h
    simp only [List.cons_append, repk]
    exact ⟨_, _, _, rfl, hc, hw, repk.snoc hk hv t⟩
theorem put_of {k v : U} {dk dv : D} (hk : rep Z s k dk) (hv : rep Z s v dv) (kk : keyU k = true) {kvs : List (U × U)} {ks : List (D × D)} (h : repk Z s kvs ks) : repk Z s (uput kvs k v) (dput ks dk dv) := by
  unfold uput dput
  rw [any_of hk kk h]
  split
  · exact put_map hk hv kk h
  · exact h.snoc hk hv
/-! ### comparisons -/
theorem in_of {x : U} {dx : D} {ys : List U} {es : List D} {b : Bool} (hx : rdb Z s x dx) (r : reps Z s ys es) (e : inU x ys = some b) : ∃ a bs, dat s 60 dx = some a ∧ es.mapM (dat s 59) = some bs ∧ (bs.any fun z => PyData.eqv z a) = b := by
  unfold inU at e
  obtain ⟨a, e1, e⟩ := Option.bind_eq_some_iff.mp e
  obtain ⟨bs, e2, rfl⟩ := Option.map_eq_some_iff.mp e
  exact ⟨a, bs, rdb.dat 60 _ _ _ hx e1, r.dats e2, rfl⟩
theorem eq_of {x y : U} {dx dy : D} {b : Bool} (hx : rdb Z s x dx) (hy : rdb Z s y dy) (e : eqU x y = some b) : ∃ a c, dat s 60 dx = some a ∧ dat s 60 dy = some c ∧ PyData.eqv a c = b := by
  unfold eqU at e
  obtain ⟨a, e1, e⟩ := Option.bind_eq_some_iff.mp e
  obtain ⟨c, e2, rfl⟩ := Option.map_eq_some_iff.mp e
  exact ⟨a, c, rdb.dat 60 _ _ _ hx e1, rdb.dat 60 _ _ _ hy e2, rfl⟩
theorem in_items {x y : U} {dx dy : D} {b : Bool} (hx : rdb Z s x dx) (hy : rdb Z s y dy) (hd : ∀ kvs, y ≠ .dic kvs) (e : (itemsU y).bind (inU x) = some b) :
    (∃ es a bs, dy = .tup es ∧ dat s 60 dx = some a ∧ es.mapM (dat s 59) = some bs ∧ (bs.any fun z => PyData.eqv z a) = b) ∨ (∃ l es a bs, dy = .loc l ∧ seqAt s l = some es ∧ dat s 60 dx = some a ∧ es.mapM (dat s 59) = some bs ∧ (bs.any fun z => PyData.eqv z a) = b) := by
  obtain ⟨ys, e1, e2⟩ := Option.bind_eq_some_iff.mp e
  cases y <;> simp only [itemsU, Option.some.injEq, reduceCtorEq] at e1 <;> subst e1
  · obtain ⟨es, rfl, r⟩ := hy.tupI
    obtain ⟨a, bs, h1, h2, h3⟩ := in_of hx r e2
    exact .inl ⟨es, a, bs, rfl, h1, h2, h3⟩
  · obtain ⟨l, es, rfl, e0, r⟩ := hy.lstI
    obtain ⟨a, bs, h1, h2, h3⟩ := in_of hx r e2
    exact .inr ⟨l, es, a, bs, rfl, by unfold seqAt; rw [e0], h1, h2, h3⟩
  · obtain ⟨l, es, rfl, e0, r⟩ := hy.rolI
    obtain ⟨a, bs, h1, h2, h3⟩ := in_of hx r e2
    exact .inr ⟨l, es, a, bs, rfl, by unfold seqAt; rw [e0], h1, h2, h3⟩
theorem key_sc {x : U} (k : keyU x = true) : isC x = false ∧ ∀ xs, x ≠ .rol xs := by
  cases x <;> simp [keyU, isC] at k ⊢
theorem p_cm {op : Cm} {x y : U} {dx dy : D} {b : Bool} (hx : rdb Z s x dx) (hy : rdb Z s y dy) (e : ucm op x y = some b) (q : Q (.bl b) s) : wpCm op dx dy s Q := by
  unfold ucm at e
  split at e
  · obtain ⟨a, c, h1, h2, h3⟩ := eq_of hx hy e
    exact ⟨a, c, h1, h2, by rw [h3]; exact q⟩
  · obtain ⟨b', e1, rfl⟩ := Option.map_eq_some_iff.mp e
    obtain ⟨a, c, h1, h2, h3⟩ := eq_of hx hy e1
    exact ⟨a, c, h1, h2, by rw [h3]; exact q⟩
  · rw [hx.intI, hy.intI]; cases e; exact q
  · rw [hx.strI, hy.strI]; cases e; exact q
  · unfold ltU at e
    obtain ⟨a, e1, e⟩ := Option.bind_eq_some_iff.mp e
    obtain ⟨c, e2, e⟩ := Option.bind_eq_some_iff.mp e
    have d1 := rdb.dat 50 _ _ _ hx e1
    have d2 := rdb.dat 50 _ _ _ hy e2
    obtain ⟨ds, rfl, _⟩ := hx.tupI
    obtain ⟨es, rfl, _⟩ := hy.tupI
    split at e
    · next h => cases e; exact ⟨a, c, d1, d2, h, q⟩
    · cases e
  · obtain ⟨a, e1, e⟩ := Option.bind_eq_some_iff.mp e
    obtain ⟨c, e2, e⟩ := Option.bind_eq_some_iff.mp e
    have d1 := rdb.dat 50 _ _ _ hx e1
    have d2 := rdb.dat 50 _ _ _ hy e2
    obtain ⟨ds, rfl, _⟩ := hx.tupI
    obtain ⟨es, rfl, _⟩ := hy.tupI
    split at e
    · next h => cases e; exact ⟨a, c, d1, d2, h, q⟩
    · cases e
  · obtain ⟨a, e1, e⟩ := Option.bind_eq_some_iff.mp e
    obtain ⟨c, e2, e⟩ := Option.bind_eq_some_iff.mp e
    have d1 := rdb.dat 50 _ _ _ hx e1
    have d2 := rdb.dat 50 _ _ _ hy e2
    obtain ⟨ds, rfl, _⟩ := hx.tupI
    obtain ⟨es, rfl, _⟩ := hy.tupI
    split at e
    · next h => cases e; exact ⟨a, c, d1, d2, h, q⟩
    · cases e
  · rw [hx.intI, hy.intI]; cases e; exact q
  · rw [hx.intI, hy.intI]; cases e; exact q
  · rw [hx.intI, hy.intI]; cases e; exact q
  · next kvs =>
    obtain ⟨l, ks, rfl, e0, r⟩ := hy.dicI
    split at e
    · next k =>
      cases e
      have rx := hx.sc (key_sc k).1 (key_sc k).2
      exact .inr ⟨ks, e0, key_flat rx k, by rw [isSome_of rx k r]; exact q⟩
    · cases e
  · next kvs =>
    obtain ⟨l, ks, rfl, e0, r⟩ := hy.dicI
    split at e
    · next k =>
      cases e
      have rx := hx.sc (key_sc k).1 (key_sc k).2
      exact .inr ⟨ks, e0, key_flat rx k, by rw [isSome_of rx k r]; exact q⟩
    · cases e
  · next hn =>
    rcases in_items hx hy (fun kvs z => hn kvs z) e with ⟨es, a, bs, rfl, h1, h2, h3⟩ | ⟨l, es, a, bs, rfl, h0, h1, h2, h3⟩
    · exact ⟨a, bs, h1, h2, by rw [h3]; exact q⟩
    · exact .inl ⟨es, a, bs, h0, h1, h2, by rw [h3]; exact q⟩
  · next hn =>
    obtain ⟨b', e1, rfl⟩ := Option.map_eq_some_iff.mp e
    rcases in_items hx hy (fun kvs z => hn kvs z) e1 with ⟨es, a, bs, rfl, h1, h2, h3⟩ | ⟨l, es, a, bs, rfl, h0, h1, h2, h3⟩
    · exact ⟨a, bs, h1, h2, by rw [h3]; exact q⟩
    · exact .inl ⟨es, a, bs, h0, h1, h2, by rw [h3]; exact q⟩
  · cases e
/-! ### places -/
theorem at_of {vs : List U} {ds : List D} {i : Int} {v : U} (r : reps Z s vs ds) (e : atU vs i = some v) : ∃ d, atD ds i = some d ∧ rep Z s v d := by
  unfold atU at e
  unfold atD
  obtain ⟨j, e1, e2⟩ := Option.bind_eq_some_iff.mp e
  obtain ⟨d, e3, q⟩ := r.at e2
  exact ⟨d, by rw [← r.len, e1]; exact e3, q⟩
theorem p_ix {x y v : U} {dx dy : D} (hx : rdb Z s x dx) (hy : rdb Z s y dy) (e : uix x y = some v) (q : ∀ d, rep Z s v d → Q d s) : wpIx dx dy s Q := by
  unfold uix at e
  split at e
  · obtain ⟨ds, rfl, r⟩ := hx.tupI
    rw [hy.intI]
    obtain ⟨d, e1, h⟩ := at_of r e
    exact ⟨d, e1, q d h⟩
  · obtain ⟨l, ds, rfl, e0, r⟩ := hx.lstI
    rw [hy.intI]
    obtain ⟨d, e1, h⟩ := at_of r e
    exact .inl ⟨ds, _, d, rfl, by unfold seqAt; rw [e0], e1, q d h⟩
  · obtain ⟨l, ds, rfl, e0, r⟩ := hx.rolI
    rw [hy.intI]
    obtain ⟨d, e1, h⟩ := at_of r e
    exact .inl ⟨ds, _, d, rfl, by unfold seqAt; rw [e0], e1, q d h⟩
  · rw [hx.strI, hy.intI]
    split at e
    · next h =>
      obtain ⟨j, e1, e2⟩ := Option.bind_eq_some_iff.mp e
      obtain ⟨c, e3, rfl⟩ := Option.map_eq_some_iff.mp e2
      exact ⟨h, j, c, e1, e3, q _ (by simp only [rep])⟩
    · cases e
  · obtain ⟨l, ks, rfl, e0, r⟩ := hx.dicI
    split at e
    · next k =>
      have ry := hy.sc (key_sc k).1 (key_sc k).2
      obtain ⟨d, e1, h⟩ := (get_of ry k r).1 v e
      exact .inr ⟨ks, d, e0, key_flat ry k, e1, q d h⟩
    · cases e
  · cases e
theorem p_get {x y v : U} {dx dy : D} (hx : rdb Z s x dx) (hc : isC x = true) (hy : rdb Z s y dy) (e : uix x y = some v) (q : ∀ d, rep Z s v d → Q d s) : wpGet dx dy s Q := by
  have h := p_ix hx hy e q
  cases x <;> simp only [isC, Bool.false_eq_true] at hc
  · obtain ⟨l, ds, rfl, e0, r⟩ := hx.lstI
    exact h
  · obtain ⟨l, ds, rfl, e0, r⟩ := hx.dicI
    exact h
theorem p_sl {x v : U} {dx : D} {lo hi : Option Int} (hx : rdb Z s x dx) (e : usl x lo hi = some v) (q : Res Z s v Q) : wpSl dx lo hi s Q := by
  unfold usl at e
  split at e
  · obtain ⟨ds, rfl, r⟩ := hx.tupI; cases e; exact q.tup (r.cut _ _)
  · obtain ⟨l, ds, rfl, e0, r⟩ := hx.lstI; cases e; exact ⟨ds, by unfold seqAt; rw [e0], q.lst (r.cut _ _)⟩
  · rw [hx.strI]
    split at e
    · next h => cases e; exact ⟨h, q.str⟩
    · cases e
  · cases e
/-- a write in place -/
theorem p_set {x k v n : U} {dx dk dv : D} {R : S → Prop} (hx : rdb Z s x dx) (hk : rdb Z s k dk) (hv : rep Z s v dv) (e : uset x k v = some n) (q : ∀ l o, dx = .loc l → contO Z s n o → R (s.up l o)) : wpSet dx dk dv s R := by
  unfold uset at e
  split at e
  · obtain ⟨l, ds, rfl, e0, r⟩ := hx.lstI
    rw [hk.intI]
    obtain ⟨j, e1, rfl⟩ := Option.map_eq_some_iff.mp e
    exact .inl ⟨ds, _, j, e0, rfl, by rw [← r.len]; exact e1, q l _ rfl (by simpa only [contO] using r.set hv j)⟩
  · obtain ⟨l, ks, rfl, e0, r⟩ := hx.dicI
    split at e
    · next h =>
      cases e
      have rk := hk.sc (key_sc h.1).1 (key_sc h.1).2
      exact .inr ⟨ks, e0, key_flat rk h.1, by rw [← r.len]; exact h.2, q l _ rfl (by simpa only [contO] using put_of rk hv h.1 r)⟩
    · cases e
  · cases e
end
end PL
end

section
set_option autoImplicit false
set_option linter.all false
set_option maxHeartbeats 4000000
namespace PL
open PySem PySem.W PySem.SeqAt

section
variable {Z : Nat → Prop} {s : S} {Q : Post}
theorem place_of {xs : List U} {ds : List D} {x : U} {dx : D} {j : Nat} (r : reps Z s xs ds) (hx : rdb Z s x dx) (e : placeU xs x = some j) : ∃ as y, ds.mapM (dat s 59) = some as ∧ dat s 60 dx = some y ∧ dataPlace as y = some j := by
  unfold placeU at e
  obtain ⟨as, e1, e⟩ := Option.bind_eq_some_iff.mp e
  obtain ⟨y, e2, e⟩ := Option.bind_eq_some_iff.mp e
  exact ⟨as, y, r.dats e1, rdb.dat 60 _ _ _ hx e2, e⟩
/-- a method: what is asked -/
def ResM (Z : Nat → Prop) (s : S) (l : D) (r : U × Option U) (Q : Post) : Prop := match r.2 with
  | none => ∀ d, rep Z s r.1 d → Q d s
  | some n => ∀ d a o, l = .loc a → rep Z s r.1 d → contO Z s n o → Q d (s.up a o)
theorem p_mt {m : Mt} {x : U} {dx : D} {vs : List U} {ds : List D} {r : U × Option U} (hx : rdb Z s x dx) (hv : reps Z s vs ds ∨ (∃ ys l es, m = .extend ∧ vs = [.lst ys] ∧ ds = [.loc l] ∧ s l = some (.lst es) ∧ reps Z s ys es)) (e : umt m x vs = some r) (q : ResM Z s dx r Q) : wpMt m dx ds s Q := by
  unfold umt at e
  split at e
  · obtain ⟨l, xs, rfl, e0, rx⟩ := hx.lstI
    rcases hv with hv | ⟨_, _, _, hm, _⟩
    · simp only [reps] at hv
      obtain ⟨d, _, rfl, h, rfl⟩ := hv
      split at e
      · next hl => cases e; exact ⟨xs, e0, by rw [← rx.len]; exact hl, q .non l _ rfl (by simp only [rep]) (by simpa only [contO] using rx.app (reps.one h))⟩
      · cases e
    · cases hm
  · next xs ys =>
    obtain ⟨l, xs', rfl, e0, rx⟩ := hx.lstI
    have key : ∃ l' es, ds = [.loc l'] ∧ s l' = some (.lst es) ∧ reps Z s ys es := by
      rcases hv with hv | ⟨ys', l', es, _, h1, h2, h3, h4⟩
      · simp only [reps] at hv
        obtain ⟨d, _, rfl, h, rfl⟩ := hv
        obtain ⟨l', es, rfl, e1, r1⟩ := h.rd.lstI
        exact ⟨l', es, rfl, e1, r1⟩
      · cases h1; exact ⟨l', es, h2, h3, h4⟩
    obtain ⟨l', es, rfl, e1, r1⟩ := key
    split at e
    · next hl => cases e; exact ⟨xs', es, e0, e1, by rw [← rx.len, ← r1.len]; exact hl, q .non l _ rfl (by simp only [rep]) (by simpa only [contO] using rx.app r1)⟩
    · cases e
  case h_11 => cases e
  all_goals rcases hv with hv | ⟨_, _, _, hm, _⟩
  all_goals try (exact Mt.noConfusion hm)
  · obtain ⟨l, xs, rfl, e0, rx⟩ := hx.lstI
    simp only [reps] at hv
    obtain ⟨d, _, rfl, h, rfl⟩ := hv
    rw [h.rd.intI]
    split at e
    · next hb =>
      obtain ⟨j, e1, e2⟩ := Option.bind_eq_some_iff.mp e
      obtain ⟨v, e3, rfl⟩ := Option.map_eq_some_iff.mp e2
      obtain ⟨d', e4, h4⟩ := rx.at e3
      exact ⟨xs, j, d', e0, hb, by rw [← rx.len]; exact e1, e4, q d' l _ rfl h4 (by simpa only [contO] using rx.erase j)⟩
    · cases e
  · obtain ⟨l, xs, rfl, e0, rx⟩ := hx.lstI
    simp only [reps] at hv
    subst hv
    obtain ⟨v, e3, rfl⟩ := Option.map_eq_some_iff.mp e
    obtain ⟨d', e4, h4⟩ := rx.at e3
    exact ⟨xs, d', e0, by rw [← rx.len]; exact e4, q d' l _ rfl h4 (by simpa only [contO] using rx.dropLast)⟩
  · obtain ⟨l, xs, rfl, e0, rx⟩ := hx.lstI
    simp only [reps] at hv
    obtain ⟨d, _, rfl, h, rfl⟩ := hv
    obtain ⟨j, e1, rfl⟩ := Option.map_eq_some_iff.mp e
    obtain ⟨as, y, h1, h2, h3⟩ := place_of rx h.rd e1
    exact ⟨xs, as, y, j, by unfold seqAt; rw [e0], h1, h2, h3, q (.int j) (by simp only [rep])⟩
  · obtain ⟨l, xs, rfl, e0, rx⟩ := hx.lstI
    simp only [reps] at hv
    obtain ⟨d, _, rfl, h, rfl⟩ := hv
    obtain ⟨j, e1, rfl⟩ := Option.map_eq_some_iff.mp e
    obtain ⟨as, y, h1, h2, h3⟩ := place_of rx h.rd e1
    exact ⟨xs, as, y, j, e0, h1, h2, h3, q .non l _ rfl (by simp only [rep]) (by simpa only [contO] using rx.erase j)⟩
  · obtain ⟨l, xs, rfl, e0, rx⟩ := hx.lstI
    simp only [reps] at hv
    obtain ⟨d, _, rfl, h, rfl⟩ := hv
    obtain ⟨as, e1, e2⟩ := Option.bind_eq_some_iff.mp e
    obtain ⟨b, e3, rfl⟩ := Option.map_eq_some_iff.mp e2
    exact ⟨xs, as, b, by unfold seqAt; rw [e0], rx.dats e1, rdb.dat 60 _ _ _ h.rd e3, q _ (by simp only [rep])⟩
  · obtain ⟨xs, rfl, rx⟩ := hx.tupI
    simp only [reps] at hv
    obtain ⟨d, _, rfl, h, rfl⟩ := hv
    obtain ⟨as, e1, e2⟩ := Option.bind_eq_some_iff.mp e
    obtain ⟨b, e3, rfl⟩ := Option.map_eq_some_iff.mp e2
    exact ⟨as, b, rx.dats e1, rdb.dat 60 _ _ _ h.rd e3, q _ (by simp only [rep])⟩
  · obtain ⟨l, ks, rfl, e0, rx⟩ := hx.dicI
    simp only [reps] at hv
    obtain ⟨d, _, rfl, h, rfl⟩ := hv
    split at e
    · next k =>
      cases e
      refine ⟨ks, e0, key_flat h k, ?_⟩
      obtain ⟨i1, i2⟩ := get_of h k rx
      refine q _ ?_
      cases hg : uget _ _ with
      | none => rw [i2 hg]; simp only [Option.getD_none, rep]
      | some v => obtain ⟨d', e1, h1⟩ := i1 v hg; rw [e1]; exact h1
    · cases e
  · obtain ⟨l, ks, rfl, e0, rx⟩ := hx.dicI
    simp only [reps] at hv
    obtain ⟨d, _, rfl, h, d2, _, rfl, h2, rfl⟩ := hv
    split at e
    · next k =>
      cases e
      refine ⟨ks, e0, key_flat h k, ?_⟩
      obtain ⟨i1, i2⟩ := get_of h k rx
      refine q _ ?_
      cases hg : uget _ _ with
      | none => rw [i2 hg]; exact h2
      | some v => obtain ⟨d', e1, h1⟩ := i1 v hg; rw [e1]; exact h1
    · cases e
theorem recv_of {m : Mt} {x : U} {dx : D} (hx : rdb Z s x dx) (e : recvU m x = true) : recvB m dx s = true := by
  have lst : ∀ xs, x = .lst xs → ∀ m, m ≠ .get1 → m ≠ .get2 → recvB m dx s = true := fun xs h m h1 h2 => by
    subst h
    obtain ⟨l, ds, rfl, e0, _⟩ := hx.lstI
    have : (seqAt s l).isSome = true := by unfold seqAt; rw [e0]; rfl
    cases m <;> first | exact this | exact absurd rfl h1 | exact absurd rfl h2
  cases m <;> cases x <;> simp only [recvU, Bool.false_eq_true] at e
  case count.tup => obtain ⟨_, rfl, _⟩ := hx.tupI; rfl
  case get1.dic => obtain ⟨l, ds, rfl, e0, _⟩ := hx.dicI; simp only [recvB, e0]
  case get2.dic => obtain ⟨l, ds, rfl, e0, _⟩ := hx.dicI; simp only [recvB, e0]
  all_goals exact lst _ rfl _ (by simp) (by simp)
/-! ### sorting -/
theorem ins_perm {α : Type} {le : α → α → Bool} (x : α) : ∀ xs : List α, (ins le x xs).Perm (x :: xs)
  | [] => List.Perm.refl _
  | y :: ys => by
    unfold ins
    split
    · exact List.Perm.refl _
    · exact ((ins_perm x ys).cons y).trans (List.Perm.swap x y ys)
theorem isort_perm {α : Type} {le : α → α → Bool} : ∀ xs : List α, (isort le xs).Perm xs
  | [] => List.Perm.refl _
  | x :: xs => (ins_perm x _).trans ((isort_perm xs).cons x)
theorem ins_pw {α : Type} {le : α → α → Bool} (tr : ∀ a b c, le a b = true → le b c = true → le a c = true) (to : ∀ a b, le a b = true ∨ le b a = true) (x : α) : ∀ {xs : List α}, xs.Pairwise (fun a b => le a b = true) → (ins le x xs).Pairwise (fun a b => le a b = true)
  | [], _ => List.pairwise_singleton _ _
  | y :: ys, h => by
    unfold ins
    rw [List.pairwise_cons] at h
    split
    · next hxy =>
      refine List.pairwise_cons.mpr ⟨fun z hz => ?_, List.pairwise_cons.mpr h⟩
      rcases List.mem_cons.mp hz with rfl | hz
      · exact hxy
      · exact tr _ _ _ hxy (h.1 z hz)
    · next hxy =>
      refine List.pairwise_cons.mpr ⟨fun z hz => ?_, ins_pw tr to x h.2⟩
      rcases List.mem_cons.mp ((ins_perm x ys).mem_iff.mp hz) with rfl | hz
      · exact (to _ _).resolve_left hxy
      · exact h.1 z hz
theorem isort_pw {α : Type} {le : α → α → Bool} (tr : ∀ a b c, le a b = true → le b c = true → le a c = true) (to : ∀ a b, le a b = true ∨ le b a = true) : ∀ xs : List α, (isort le xs).Pairwise (fun a b => le a b = true)
  | [] => List.Pairwise.nil
  | x :: xs => ins_pw tr to x (isort_pw tr to xs)
theorem leU_eq (rev : Bool) (x y : U) : leU rev x y = sortLe (PyProof.Rows.listOrd PyProof.Rows.itemOrd) rev (fun b => keyToks (dU b)) x y := by
  unfold leU sortLe
  cases rev <;> rfl
theorem leU_tr (rev : Bool) (a b c : U) (h : leU rev a b = true) (h' : leU rev b c = true) : leU rev a c = true := by
  rw [leU_eq] at *
  exact (sortLe_total (PyProof.Rows.listOrd PyProof.Rows.itemOrd) rev fun b => keyToks (dU b)).trans a b c h h'
theorem leU_to (rev : Bool) (a b : U) : leU rev a b = true ∨ leU rev b a = true := by
  rw [leU_eq, leU_eq]
  exact (sortLe_total (PyProof.Rows.listOrd PyProof.Rows.itemOrd) rev fun b => keyToks (dU b)).total a b
theorem leU_as (rev : Bool) {n : Nat} {a b : U} (ha : okU n a = true) (hb : okU n b = true) (al : alike (dU a) (dU b) = true) (h : leU rev a b = true) (h' : leU rev b a = true) : a = b := by
  have q : keyToks (dU a) = keyToks (dU b) := by
    unfold leU at h h'
    cases rev <;> simp only [if_true, Bool.false_eq_true, if_false, Bool.not_eq_true'] at h h'
    · exact (PyProof.Rows.listOrd PyProof.Rows.itemOrd).total _ _ h' h
    · exact (PyProof.Rows.listOrd PyProof.Rows.itemOrd).total _ _ h h'
  have e := toks_inj al q
  have go : ∀ (n : Nat) (a b : U), okU n a = true → okU n b = true → PyData.eqv (dU a) (dU b) = true → a = b := by
    intro n
    induction n with
    | zero =>
      intro a b ha hb e
      cases a <;> first | (simp [okU] at ha; done) | skip
      all_goals cases b <;> first | (simp [okU] at hb; done) | (simp [dU, PyData.eqv] at e; done) | (simp only [dU, PyData.eqv, beq_iff_eq] at e; rw [e]) | rfl
    | succ n ih =>
      intro a b ha hb e
      cases a <;> first | (simp [okU] at ha; done) | skip
      case tup xs =>
        cases b <;> first | (simp [okU] at hb; done) | (simp [dU, PyData.eqv] at e; done) | skip
        next ys =>
        simp only [okU, List.all_eq_true] at ha hb
        simp only [dU, PyData.eqv] at e
        congr 1
        have go2 : ∀ xs ys : List U, (∀ x ∈ xs, okU n x = true) → (∀ x ∈ ys, okU n x = true) → PyData.eqvAll (dUs xs) (dUs ys) = true → xs = ys := by
          intro xs
          induction xs with
          | nil => intro ys _ _ h; cases ys with
            | nil => rfl
            | cons _ _ => simp [dUs, PyData.eqvAll] at h
          | cons x xs ih2 => intro ys h1 h2 h; cases ys with
            | nil => simp [dUs, PyData.eqvAll] at h
            | cons y ys =>
              simp only [dUs, PyData.eqvAll, Bool.and_eq_true] at h
              rw [ih x y (h1 x (by simp)) (h2 y (by simp)) h.1, ih2 ys (fun z hz => h1 z (by simp [hz])) (fun z hz => h2 z (by simp [hz])) h.2]
        exact go2 xs ys ha hb e
      all_goals cases b <;> first | (simp [okU] at hb; done) | (simp [dU, PyData.eqv] at e; done) | (simp only [dU, PyData.eqv, beq_iff_eq] at e; rw [e]) | rfl
  exact go n a b ha hb e
/-- a sorted list is the one that is in order -/
theorem sort_uniq {rev : Bool} {n : Nat} {xs ys : List U} (ho : ∀ x ∈ xs, okU n x = true) (ha : ∀ x ∈ xs, ∀ y ∈ xs, alike (dU x) (dU y) = true) (p : ys.Perm xs) (h : ys.Pairwise (fun a b => leU rev a b = true)) : isort (leU rev) xs = ys := by
  refine List.Perm.eq_of_pairwise (le := fun a b => leU rev a b = true) (fun a b ha1 hb1 h1 h2 => ?_) (isort_pw (leU_tr rev) (leU_to rev) xs) h ((isort_perm xs).trans p.symm)
  have ax := (isort_perm xs).mem_iff.mp ha1
  have bx := p.mem_iff.mp hb1
  exact leU_as rev (ho a ax) (ho b bx) (ha a ax b bx) h1 h2
theorem alikeB_iff {xs : List U} : alikeB xs = true ↔ ∀ x ∈ xs, ∀ y ∈ xs, alike (dU x) (dU y) = true := by
  unfold alikeB; simp only [List.all_eq_true]
theorem sortable_of {xs : List U} (h : sortableB xs = true) : Sortable (xs.map dU) := by
  unfold sortableB at h
  rw [Bool.or_eq_true] at h
  rcases h with h | h
  · rw [List.all_eq_true] at h
    refine .inl fun d hd => ?_
    obtain ⟨x, hx, rfl⟩ := List.mem_map.mp hd
    have := h x hx
    split at this
    · next y ys => exact ⟨dU y, dUs ys, by simp only [dU, dUs]⟩
    · cases this
  · rw [List.all_eq_true] at h
    refine .inr fun d hd => ?_
    obtain ⟨x, hx, rfl⟩ := List.mem_map.mp hd
    have := h x hx
    cases x <;> simp [dU] at this ⊢
theorem sort_of {rev : Bool} {xs ys : List U} {ds : List D} (r : reps Z s xs ds) (e : sortU rev xs = some ys) : ∃ as, Sorts s ds as ∧ reps Z s ys (sortS s rev ds) := by
  unfold sortU at e
  split at e
  · next h =>
    cases e
    simp only [Bool.and_eq_true, List.all_eq_true] at h
    obtain ⟨⟨ho, ha⟩, hs⟩ := h
    rw [alikeB_iff] at ha
    have hds := flats_eq ho r
    refine ⟨xs.map dU, ⟨r.dats (datUs_ok (by omega) ho), ?_, sortable_of hs⟩, ?_⟩
    · intro d hd e he
      obtain ⟨x, hx, rfl⟩ := List.mem_map.mp hd
      obtain ⟨y, hy, rfl⟩ := List.mem_map.mp he
      exact ha x hx y hy
    · have key : sortS s rev ds = (isort (leU rev) xs).map (flatD 50) := by
        rw [hds]
        unfold sortS
        have e1 : (xs.map (flatD 50)).mergeSort (dataLe rev (datD s)) = (xs.mergeSort (leU rev)).map (flatD 50) := by
          refine (List.map_mergeSort fun a ha' b hb => ?_).symm
          rw [leU_eq]
          have dd : ∀ x, x ∈ xs → datD s (flatD 50 x) = dU x := fun x hx => by
            unfold datD
            rw [rdb.dat (Z := Z) 50 x _ _ (flat_rep 50 x (ho x hx)).rd (datU_ok 50 x 50 (ho x hx) (by omega))]; rfl
          unfold dataLe sortLe
          show _ = cond rev (!(PyProof.Rows.listOrd PyProof.Rows.itemOrd).blt (keyToks (datD s (flatD 50 a))) (keyToks (datD s (flatD 50 b)))) (!(PyProof.Rows.listOrd PyProof.Rows.itemOrd).blt (keyToks (datD s (flatD 50 b))) (keyToks (datD s (flatD 50 a))))
          rw [dd a ha', dd b hb]
        rw [e1]
        congr 1
        refine (sort_uniq ho ha (List.mergeSort_perm _ _) (List.pairwise_mergeSort (fun a b c => leU_tr rev a b c) (fun a b => ?_) xs)).symm
        rw [Bool.or_eq_true]; exact leU_to rev a b
      rw [key]
      rw [show reps Z s (isort (leU rev) xs) ((isort (leU rev) xs).map (flatD 50)) = reps Z s ((isort (leU rev) xs).map id) ((isort (leU rev) xs).map (flatD 50)) from by rw [List.map_id]]
      exact reps.map fun x hx => flat_rep 50 x (ho x ((isort_perm xs).mem_iff.mp hx))
  · cases e
theorem ext_of {mx : Bool} {xs : List U} {ds : List D} {v : U} (r : reps Z s xs ds) (e : extU mx xs = some v) : ∃ (a : PyData) (as : List PyData), ds.mapM (dat s 50) = some (a :: as) ∧ AlikeAll (a :: as) ∧ (∀ d, d ∈ ds → dat s 50 d = some (if mx then maxD a as else minD a as) → rep Z s v d) ∧ isC v = false := by
  cases xs with
  | nil => simp [extU] at e
  | cons x xs =>
    simp only [extU] at e
    by_cases h : ((x :: xs).all (okU 50) && alikeB (x :: xs) && (x :: xs).all (fun z => z != .non)) = true
    · rw [if_pos h] at e
      simp only [Option.some.injEq] at e
      rw [Bool.and_eq_true, Bool.and_eq_true, List.all_eq_true, alikeB_iff, List.all_eq_true] at h
      obtain ⟨⟨ho, ha⟩, hn⟩ := h
      have hv : v ∈ x :: xs ∧ dU v = (if mx then maxD (dU x) (xs.map dU) else minD (dU x) (xs.map dU)) := by
        have go : ∀ (ys : List U) (y : U), y ∈ x :: xs → (∀ z ∈ ys, z ∈ x :: xs) →
            (ys.foldl (fun a y => if (if mx then dataLt (dU a) (dU y) else dataLt (dU y) (dU a)) = true then y else a) y) ∈ x :: xs ∧
            dU (ys.foldl (fun a y => if (if mx then dataLt (dU a) (dU y) else dataLt (dU y) (dU a)) = true then y else a) y) = (if mx then maxD (dU y) (ys.map dU) else minD (dU y) (ys.map dU)) := by
          intro ys
          induction ys with
          | nil => intro y hy _; exact ⟨hy, by cases mx <;> rfl⟩
          | cons z ys ih =>
            intro y hy hz
            simp only [List.foldl_cons, List.map_cons]
            by_cases hc : (if mx then dataLt (dU y) (dU z) else dataLt (dU z) (dU y)) = true
            · rw [if_pos hc]
              obtain ⟨h1, h2⟩ := ih z (hz z (by simp)) fun w hw => hz w (by simp [hw])
              refine ⟨h1, h2.trans ?_⟩
              cases mx
              · simp only [Bool.false_eq_true, if_false] at hc ⊢
                unfold minD; rw [List.foldl_cons, if_pos hc]
              · simp only [if_true] at hc ⊢
                unfold maxD; rw [List.foldl_cons, if_pos hc]
            · rw [if_neg hc]
              obtain ⟨h1, h2⟩ := ih y hy fun w hw => hz w (by simp [hw])
              refine ⟨h1, h2.trans ?_⟩
              cases mx
              · simp only [Bool.false_eq_true, if_false] at hc ⊢
                unfold minD; rw [List.foldl_cons, if_neg hc]
              · simp only [if_true] at hc ⊢
                unfold maxD; rw [List.foldl_cons, if_neg hc]
        rw [← e]
        exact go xs x (by simp) fun z hz => by simp [hz]
      refine ⟨dU x, xs.map dU, r.dats (datUs_ok (n := 50) (by omega) ho), ⟨fun a ha' b hb => ?_, fun a ha' => ?_⟩, fun d hd hd' => ?_, ?_⟩
      · obtain ⟨a', ha'', rfl⟩ := List.mem_map.mp (show a ∈ (x :: xs).map dU from ha')
        obtain ⟨b', hb'', rfl⟩ := List.mem_map.mp (show b ∈ (x :: xs).map dU from hb)
        exact ha a' ha'' b' hb''
      · obtain ⟨a', ha'', rfl⟩ := List.mem_map.mp (show a ∈ (x :: xs).map dU from ha')
        have h1 := ho a' ha''
        have h2 := hn a' ha''
        cases a' <;> simp [dU, okU] at h1 h2 ⊢
      · rw [← hv.2] at hd'
        have hds := flats_eq ho r
        rw [hds] at hd
        obtain ⟨w, hw, rfl⟩ := List.mem_map.mp hd
        rw [rdb.dat (Z := Z) 50 w _ _ (flat_rep 50 w (ho w hw)).rd (datU_ok 50 w 50 (ho w hw) (by omega))] at hd'
        have := dU_inj 50 w v (ho w hw) (ho v hv.1) (Option.some.inj hd')
        subst this
        exact flat_rep 50 w (ho w hw)
      · have := ho v hv.1
        cases v <;> simp [okU, isC] at this ⊢
    · rw [if_neg h] at e; cases e
end
end PL
end

section
set_option autoImplicit false
set_option linter.all false
set_option maxHeartbeats 4000000
namespace PL
open PySem PySem.W PySem.SeqAt

section
variable {Z : Nat → Prop} {s : S} {Q : Post}
def rdbs (Z : Nat → Prop) (s : S) : List U → List D → Prop
  | [], ds => ds = []
  | v :: vs, ds => ∃ d r, ds = d :: r ∧ rdb Z s v d ∧ rdbs Z s vs r
theorem rdbs.one {v : U} {ds : List D} (h : rdbs Z s [v] ds) : ∃ d, ds = [d] ∧ rdb Z s v d := by
  simp only [rdbs] at h
  obtain ⟨d, _, rfl, h, rfl⟩ := h
  exact ⟨d, rfl, h⟩
theorem rdbs.two {v w : U} {ds : List D} (h : rdbs Z s [v, w] ds) : ∃ d e, ds = [d, e] ∧ rdb Z s v d ∧ rdb Z s w e := by
  simp only [rdbs] at h
  obtain ⟨d, _, rfl, h, e, _, rfl, h2, rfl⟩ := h
  exact ⟨d, e, rfl, h, h2⟩
theorem isCl_of {c : Cl} {v : U} {d : D} {b : Bool} (h : rdb Z s v d) (e : isClU c v = some b) : isCl s c d = some b := by
  cases v <;> simp only [isClU, Option.some.injEq, reduceCtorEq] at e <;> subst e
  · rw [h.nonI]; rfl
  · rw [h.blI]; rfl
  · rw [h.intI]; rfl
  · rw [h.strI]; rfl
  · obtain ⟨_, rfl, _⟩ := h.tupI; rfl
  · obtain ⟨_, _, rfl, e, _⟩ := h.lstI; simp only [isCl, e]
  · obtain ⟨_, _, rfl, e, _⟩ := h.dicI; simp only [isCl, e]
theorem rng_of : ∀ {vs : List U} {ds : List D} {r : Int × Nat × Int}, rdbs Z s vs ds → rngU vs = some r → rngOf ds = some r := by
  intro vs ds r h e
  unfold rngU at e
  split at e
  · obtain ⟨d, rfl, h1⟩ := h.one
    rw [h1.intI]
    split at e
    · next hb => cases e; unfold rngOf; exact if_pos hb
    · cases e
  · obtain ⟨d, d', rfl, h1, h2⟩ := h.two
    rw [h1.intI, h2.intI]
    split at e
    · next hb => cases e; unfold rngOf; exact if_pos hb
    · cases e
  · simp only [rdbs] at h
    obtain ⟨d, _, rfl, h1, d', _, rfl, h2, d'', _, rfl, h3, rfl⟩ := h
    rw [h1.intI, h2.intI, h3.intI]
    split at e
    · next hb => cases e; unfold rngOf; exact if_pos hb
    · cases e
  · cases e
theorem range_rep {lo : Int} {n : Nat} {c : Int} : reps Z s (rangeU lo n c) (rangeL lo n c) := by
  unfold rangeU rangeL
  exact reps.map fun k _ => by simp only [rep]
theorem puts_of : ∀ {xs : List U} {ds : List D} {kvs kvs' : List (U × U)} {ks : List (D × D)}, reps Z s xs ds → repk Z s kvs ks → uputs kvs xs = some kvs' → ∃ ks', dputs ks ds = some ks' ∧ repk Z s kvs' ks' := by
  intro xs
  induction xs with
  | nil =>
    intro ds kvs kvs' ks h hk e
    simp only [reps] at h; subst h
    simp only [uputs, Option.some.injEq] at e; subst e
    exact ⟨ks, rfl, hk⟩
  | cons x xs ih =>
    intro ds kvs kvs' ks h hk e
    simp only [reps] at h
    obtain ⟨d, r, rfl, q, t⟩ := h
    unfold uputs at e
    split at e
    · next hq => cases hq
    · next k v r' hq =>
      cases hq
      split at e
      · next kk =>
        obtain ⟨ps, rfl, rp⟩ := q.rd.tupI
        simp only [reps] at rp
        obtain ⟨dk, _, rfl, h1, dv, _, rfl, h2, rfl⟩ := rp
        obtain ⟨ks', e1, h3⟩ := ih t (put_of h1 h2 kk hk) e
        exact ⟨ks', by simp only [dputs]; exact e1, h3⟩
      · cases e
    · cases e
theorem p_bi {b : Bi} {vs : List U} {ds : List D} {v : U} (h : rdbs Z s vs ds) (e : ubi b vs = some v) (q : Res Z s v Q) : wpBi b ds s Q := by
  unfold ubi at e
  split at e
  · obtain ⟨d, rfl, h1⟩ := h.one
    rw [h1.strI]
    split at e
    · next hl => cases e; exact ⟨hl, q.int⟩
    · cases e
  · obtain ⟨d, rfl, h1⟩ := h.one
    obtain ⟨es, rfl, r⟩ := h1.tupI
    cases e
    show Q (.int es.length) s
    rw [← r.len]; exact q.int
  · obtain ⟨d, rfl, h1⟩ := h.one
    obtain ⟨l, es, rfl, e0, r⟩ := h1.lstI
    cases e
    simp only [wpBi, wpLen, e0]
    rw [← r.len]; exact q.int
  · obtain ⟨d, rfl, h1⟩ := h.one
    obtain ⟨l, es, rfl, e0, r⟩ := h1.rolI
    cases e
    simp only [wpBi, wpLen, e0]
    rw [← r.len]; exact q.int
  · obtain ⟨d, rfl, h1⟩ := h.one
    obtain ⟨l, es, rfl, e0, r⟩ := h1.dicI
    cases e
    simp only [wpBi, wpLen, e0]
    rw [← r.len]; exact q.int
  · obtain ⟨d, rfl, h1⟩ := h.one
    rw [h1.intI]; cases e; exact q.int
  · obtain ⟨d, rfl, h1⟩ := h.one
    rw [h1.intI]; cases e; exact q.int
  · obtain ⟨d, rfl, h1⟩ := h.one
    rw [h1.blI]; cases e; exact q.int
  · obtain ⟨d, rfl, h1⟩ := h.one
    obtain ⟨xs, e1, rfl⟩ := Option.map_eq_some_iff.mp e
    obtain ⟨es, e2, r⟩ := h1.items e1
    exact ⟨es, e2, q.lst r⟩
  · obtain ⟨d, rfl, h1⟩ := h.one
    obtain ⟨xs, e1, rfl⟩ := Option.map_eq_some_iff.mp e
    obtain ⟨es, e2, r⟩ := h1.items e1
    exact ⟨es, e2, q.tup r⟩
  · obtain ⟨d, rfl, h1⟩ := h.one
    obtain ⟨xs, e1, e⟩ := Option.bind_eq_some_iff.mp e
    obtain ⟨ys, e3, rfl⟩ := Option.map_eq_some_iff.mp e
    obtain ⟨es, e2, r⟩ := h1.items e1
    obtain ⟨as, hs, r'⟩ := sort_of r e3
    exact ⟨es, as, e2, hs, q.lst r'⟩
  · obtain ⟨d, rfl, h1⟩ := h.one
    obtain ⟨xs, e1, e⟩ := Option.bind_eq_some_iff.mp e
    obtain ⟨ys, e3, rfl⟩ := Option.map_eq_some_iff.mp e
    obtain ⟨es, e2, r⟩ := h1.items e1
    obtain ⟨as, hs, r'⟩ := sort_of r e3
    exact ⟨es, as, e2, hs, q.lst r'⟩
  · obtain ⟨d, rfl, h1⟩ := h.one
    obtain ⟨xs, e1, e⟩ := Option.bind_eq_some_iff.mp e
    obtain ⟨ns, e3, rfl⟩ := Option.map_eq_some_iff.mp e
    obtain ⟨es, e2, r⟩ := h1.items e1
    exact ⟨es, ns, e2, r.ints e3, q.int⟩
  · obtain ⟨d, rfl, h1⟩ := h.one
    obtain ⟨xs, e1, e⟩ := Option.bind_eq_some_iff.mp e
    obtain ⟨ns, e3, rfl⟩ := Option.map_eq_some_iff.mp e
    obtain ⟨es, e2, r⟩ := h1.items e1
    exact ⟨es, ns, e2, r.bls e3, q.bl⟩
  · obtain ⟨d, rfl, h1⟩ := h.one
    obtain ⟨xs, e1, e⟩ := Option.bind_eq_some_iff.mp e
    obtain ⟨ns, e3, rfl⟩ := Option.map_eq_some_iff.mp e
    obtain ⟨es, e2, r⟩ := h1.items e1
    exact ⟨es, ns, e2, r.bls e3, q.bl⟩
  · obtain ⟨d, d', rfl, h1, h2⟩ := h.two
    rw [h1.intI, h2.intI]; cases e; exact q.int
  · obtain ⟨d, rfl, h1⟩ := h.one
    obtain ⟨xs, e1, e⟩ := Option.bind_eq_some_iff.mp e
    obtain ⟨es, e2, r⟩ := h1.items e1
    obtain ⟨a, as, h3, h4, h5, h6⟩ := ext_of r e
    have key : ∃ xs a as, itemsOf s d = some xs ∧ xs.mapM (dat s 50) = some (a :: as) ∧ AlikeAll (a :: as) ∧ ∀ d, d ∈ xs → dat s 50 d = some (maxD a as) → Q d s := ⟨es, a, as, e2, h3, h4, fun d hd e' => q.sc h6 (h5 d hd e')⟩
    cases d <;> exact key
  · obtain ⟨d, d', rfl, h1, h2⟩ := h.two
    rw [h1.intI, h2.intI]; cases e; exact q.int
  · obtain ⟨d, rfl, h1⟩ := h.one
    obtain ⟨xs, e1, e⟩ := Option.bind_eq_some_iff.mp e
    obtain ⟨es, e2, r⟩ := h1.items e1
    obtain ⟨a, as, h3, h4, h5, h6⟩ := ext_of r e
    have key : ∃ xs a as, itemsOf s d = some xs ∧ xs.mapM (dat s 50) = some (a :: as) ∧ AlikeAll (a :: as) ∧ ∀ d, d ∈ xs → dat s 50 d = some (minD a as) → Q d s := ⟨es, a, as, e2, h3, h4, fun d hd e' => q.sc h6 (h5 d hd e')⟩
    cases d <;> exact key
  · obtain ⟨d, rfl, h1⟩ := h.one
    obtain ⟨b, e1, rfl⟩ := Option.map_eq_some_iff.mp e
    exact ⟨b, isCl_of h1 e1, q.bl⟩
  · obtain ⟨d, rfl, h1⟩ := h.one
    rw [h1.intI]
    split at e
    · next hl => cases e; exact ⟨hl, q.str⟩
    · cases e
  · obtain ⟨r, e1, e⟩ := Option.bind_eq_some_iff.mp e
    split at e
    · next hl => cases e; exact ⟨r, rng_of h e1, hl, q.lst range_rep⟩
    · cases e
  · obtain ⟨r, e1, e⟩ := Option.bind_eq_some_iff.mp e
    split at e
    · next hl => cases e; exact ⟨r, rng_of h e1, hl, q.tup range_rep⟩
    · cases e
  · obtain ⟨d, rfl, h1⟩ := h.one
    obtain ⟨xs, e1, e⟩ := Option.bind_eq_some_iff.mp e
    obtain ⟨kvs, e3, rfl⟩ := Option.map_eq_some_iff.mp e
    obtain ⟨es, e2, r⟩ := h1.items e1
    obtain ⟨ks, e4, h4⟩ := puts_of (kvs := []) (ks := []) r (by simp only [repk]) e3
    exact ⟨es, ks, e2, e4, q.dic h4⟩
  · cases e
end
end PL
end

section
set_option autoImplicit false
set_option linter.all false
set_option maxHeartbeats 4000000
namespace PL
open PySem PySem.W PySem.SeqAt

/-! ## slots and stores -/
def ow : Sl → Prop
  | .own _ => True
  | .ref _ => True
  | _ => False
def foot (ρ : Env) (ρD : Vs) (a : Nat) : Prop := ∃ i, ow (ρ.getD i .no) ∧ ρD.getD i none = some (.loc a)
structure Fr (Z : Nat → Prop) (s : S) (F : Nat → Prop) (Z' : Nat → Prop) (s' : S) (F' : Nat → Prop) : Prop where
  dom : ∀ a, s a ≠ none → s' a ≠ none
  pres : ∀ a, s a ≠ none → ¬F a → s' a = s a
  zup : ∀ a, Z a → Z' a
  znew : ∀ a, Z' a → Z a ∨ s a = none ∨ F a
  fnew : ∀ a, F' a → F a ∨ s a = none
theorem Fr.refl {Z : Nat → Prop} {s : S} {F : Nat → Prop} : Fr Z s F Z s F := ⟨fun _ h => h, fun _ _ _ => rfl, fun _ h => h, fun _ h => .inl h, fun _ h => .inl h⟩
theorem Fr.trans {Z Z1 Z2 : Nat → Prop} {s s1 s2 : S} {F F1 F2 : Nat → Prop} (h : Fr Z s F Z1 s1 F1) (k : Fr Z1 s1 F1 Z2 s2 F2) : Fr Z s F Z2 s2 F2 := by
  refine ⟨fun a e => k.dom a (h.dom a e), fun a e nf => ?_, fun a z => k.zup a (h.zup a z), fun a z => ?_, fun a f => ?_⟩
  · rw [k.pres a (h.dom a e) fun f => (h.fnew a f).elim nf e, h.pres a e nf]
  · rcases k.znew a z with z | e | f
    · exact h.znew a z
    · refine .inr (.inl ?_)
      cases q : s a with
      | none => rfl
      | some o => exact absurd e (h.dom a (by rw [q]; simp))
    · rcases h.fnew a f with f | e
      · exact .inr (.inr f)
      · exact .inr (.inl e)
  · rcases k.fnew a f with f | e
    · exact h.fnew a f
    · refine .inr ?_
      cases q : s a with
      | none => rfl
      | some o => exact absurd e (h.dom a (by rw [q]; simp))
/-- more may change that was not there -/
theorem Fr.weak {Z Z1 Z2 : Nat → Prop} {s s1 s2 : S} {F F1 F2 G : Nat → Prop} (h : Fr Z s F Z1 s1 F1) (k : Fr Z1 s1 G Z2 s2 F2) (hG : ∀ a, G a → F1 a ∨ s a = none) : Fr Z s F Z2 s2 F2 := by
  have h' : Fr Z s F Z1 s1 G := ⟨h.dom, h.pres, h.zup, h.znew, fun a g => (hG a g).elim (h.fnew a) .inr⟩
  exact h'.trans k
def slotOk (Z : Nat → Prop) (s : S) (F : Nat → Prop) : Sl → Option D → Prop
  | .no, _ => True
  | .val o, d => ∀ v, o = some v → ∃ e, d = some e ∧ rep Z s v e
  | .own v, d => ∃ a o, d = some (.loc a) ∧ ¬Z a ∧ s a = some o ∧ contO Z s v o
  | .ref v, d => ∃ a o, d = some (.loc a) ∧ ¬Z a ∧ s a = some o ∧ contO Z s v o
  | .bor v, d => ∃ e, d = some e ∧ rdb Z s v e ∧ ∀ a, e = .loc a → ¬F a
structure Inv (Z : Nat → Prop) (s : S) (ρ : Env) (ρD : Vs) : Prop where
  len : ρ.length = ρD.length
  sl : ∀ i, slotOk Z s (foot ρ ρD) (ρ.getD i .no) (ρD.getD i none)
  dis : ∀ i j a, i ≠ j → ow (ρ.getD i .no) → ow (ρ.getD j .no) → ρD.getD i none = some (.loc a) → ρD.getD j none ≠ some (.loc a)
  zd : ∀ a, Z a → s a ≠ none
  dd : ∀ i a, ρD.getD i none = some (.loc a) → s a ≠ none
section
variable {Z Z' : Nat → Prop} {s s' : S} {F F' : Nat → Prop} {ρ ρ' : Env} {ρD : Vs}
theorem rdb.to (hz : ∀ a, Z a → Z' a) (hs : ∀ a, Z a → s' a = s a) {v : U} {d : D} (hl : ∀ a, d = .loc a → s' a = s a) (h : rdb Z s v d) : rdb Z' s' v d := by
  cases v <;> simp only [rdb] at h ⊢ <;> try exact h
  · obtain ⟨ds, e, r⟩ := h; exact ⟨ds, e, r.to hz hs⟩
  · obtain ⟨a, o, e, e1, r⟩ := h; exact ⟨a, o, e, by rw [hl a e]; exact e1, r.to hz hs⟩
  · obtain ⟨a, o, e, e1, r⟩ := h; exact ⟨a, o, e, by rw [hl a e]; exact e1, r.to hz hs⟩
  · obtain ⟨a, o, e, e1, r⟩ := h; exact ⟨a, o, e, by rw [hl a e]; exact e1, r.to hz hs⟩
theorem slotOk.to {x : Sl} {d : Option D} (h : slotOk Z s F x d) (hz : ∀ a, Z a → Z' a) (hs : ∀ a, Z a → s' a = s a) (hl : ∀ a, d = some (.loc a) → s' a = s a ∧ (Z' a → Z a)) (hF : ∀ a, d = some (.loc a) → F' a → F a) : slotOk Z' s' F' x d := by
  cases x with
  | no => exact h
  | val v => exact fun u hu => by obtain ⟨e, h1, h2⟩ := h u hu; exact ⟨e, h1, h2.to hz hs⟩
  | own v => obtain ⟨a, o, h1, h2, h3, h4⟩ := h; exact ⟨a, o, h1, fun z => h2 ((hl a h1).2 z), by rw [(hl a h1).1]; exact h3, h4.to hz hs⟩
  | ref v => obtain ⟨a, o, h1, h2, h3, h4⟩ := h; exact ⟨a, o, h1, fun z => h2 ((hl a h1).2 z), by rw [(hl a h1).1]; exact h3, h4.to hz hs⟩
  | bor v => obtain ⟨e, h1, h2, h3⟩ := h; exact ⟨e, h1, h2.to hz hs (fun a ea => (hl a (by rw [h1, ea])).1), fun a ea f => h3 a ea (hF a (by rw [h1, ea]) f)⟩
theorem ow_loc {x : Sl} {d : Option D} (h : slotOk Z s F x d) (o : ow x) : ∃ a, d = some (.loc a) ∧ ¬Z a ∧ s a ≠ none := by
  cases x <;> simp only [ow] at o
  · obtain ⟨a, o, h1, h2, h3, _⟩ := h; exact ⟨a, h1, h2, by rw [h3]; simp⟩
  · obtain ⟨a, o, h1, h2, h3, _⟩ := h; exact ⟨a, h1, h2, by rw [h3]; simp⟩
theorem Inv.fz (I : Inv Z s ρ ρD) {a : Nat} (f : foot ρ ρD a) : ¬Z a ∧ s a ≠ none := by
  obtain ⟨i, o, e⟩ := f
  obtain ⟨b, h1, h2, h3⟩ := ow_loc (I.sl i) o
  rw [e] at h1; cases h1
  exact ⟨h2, h3⟩
/-- what is outside of the slots changed -/
theorem Inv.keep (M : Nat → Prop) (I : Inv Z s ρ ρD) (hs : ∀ a, s a ≠ none → ¬M a → s' a = s a) (hd : ∀ a, s a ≠ none → s' a ≠ none) (hz : ∀ a, Z a → Z' a) (hn : ∀ a, Z' a → Z a ∨ s a = none ∨ M a) (zd : ∀ a, Z' a → s' a ≠ none)
    (mz : ∀ a, M a → ¬Z a) (ms : ∀ i a, ρD.getD i none = some (.loc a) → ¬M a) : Inv Z' s' ρ ρD := by
  refine ⟨I.len, fun i => (I.sl i).to hz (fun a z => hs a (I.zd a z) fun m => mz a m z) (fun a e => ⟨hs a (I.dd i a e) (ms i a e), fun z => ?_⟩) (fun a _ f => f), I.dis, zd, fun i a e => hd a (I.dd i a e)⟩
  rcases hn a z with z | z | z
  · exact z
  · exact absurd z (I.dd i a e)
  · exact absurd z (ms i a e)
/-- a new object -/
theorem Inv.alloc (I : Inv Z s ρ ρD) {p : Nat} {o : O} (hp : s p = none) : Inv Z (s.up p o) ρ ρD := by
  refine I.keep (fun _ => False) (fun a e _ => S.up_ne (by rintro rfl; exact e hp)) (fun a e => ?_) (fun a z => z) (fun a z => .inl z) (fun a z => ?_) (fun a m => m.elim) fun i a e => id
  · rw [S.up_ne (by rintro rfl; exact e hp)]; exact e
  · rw [S.up_ne (by rintro rfl; exact I.zd _ z hp)]; exact I.zd a z
theorem Fr.alloc {p : Nat} {o : O} (hp : s p = none) : Fr Z s F Z (s.up p o) F := by
  refine ⟨fun a e => ?_, fun a e _ => S.up_ne (by rintro rfl; exact e hp), fun a z => z, fun a z => .inl z, fun a f => .inl f⟩
  rw [S.up_ne (by rintro rfl; exact e hp)]; exact e
/-- one more that is never written again -/
def zadd (Z : Nat → Prop) (p : Nat) : Nat → Prop := fun a => Z a ∨ a = p
theorem Inv.freeze (I : Inv Z s ρ ρD) {p : Nat} (hp : ∀ i, ρD.getD i none ≠ some (.loc p)) (hd : s p ≠ none) : Inv (zadd Z p) s ρ ρD := by
  refine ⟨I.len, fun i => (I.sl i).to (fun a z => .inl z) (fun a _ => rfl) (fun a e => ⟨rfl, fun z => ?_⟩) (fun a _ f => f), I.dis, fun a z => ?_, I.dd⟩
  · rcases z with z | rfl
    · exact z
    · exact absurd e (hp i)
  · rcases z with z | rfl
    · exact I.zd a z
    · exact hd
theorem contO.fz {p : Nat} {v : U} {o : O} (h : contO Z s v o) (e : s p = some o) : rep (zadd Z p) s v (.loc p) := by
  have h' : contO (zadd Z p) s v o := h.to (fun a z => .inl z) fun a _ => rfl
  cases v <;> cases o <;> simp only [contO] at h' <;> simp only [rep]
  · exact ⟨p, _, rfl, .inr rfl, e, h'⟩
  · exact ⟨p, _, rfl, .inr rfl, e, h'⟩
  · exact ⟨p, _, rfl, .inr rfl, e, h'⟩
theorem getD_set {α : Type} (xs : List α) (i j : Nat) (x y : α) : (xs.set i x).getD j y = if i = j ∧ i < xs.length then x else xs.getD j y := by
  rw [List.getD_eq_getElem?_getD, List.getD_eq_getElem?_getD]
  by_cases h : i = j
  · subst h
    by_cases hl : i < xs.length
    · rw [List.getElem?_set_self hl, if_pos ⟨rfl, hl⟩]; rfl
    · rw [if_neg (fun z => hl z.2), List.getElem?_eq_none (by rw [List.length_set]; omega), List.getElem?_eq_none (by omega)]
  · rw [List.getElem?_set_ne h, if_neg (fun z => h z.1)]
/-- the object of a slot, as it is now -/
theorem Inv.write (I : Inv Z s ρ ρD) {w a : Nat} {x : Sl} {o : O} (hw : ow (ρ.getD w .no)) (ha : ρD.getD w none = some (.loc a)) (hx : ow x) (hs : ∀ b, s b ≠ none → b ≠ a → s' b = s b) (hd : ∀ b, s b ≠ none → s' b ≠ none) (hz : ∀ b, Z b → Z' b) (hn : ∀ b, Z' b → Z b ∨ s b = none ∨ b = a) (zd : ∀ b, Z' b → s' b ≠ none)
    (na : ¬Z' a) (ok : slotOk Z' s' (foot (ρ.set w x) ρD) x (some (.loc a))) : Inv Z' s' (ρ.set w x) ρD := by
  have hF : ∀ b, foot (ρ.set w x) ρD b → foot ρ ρD b := fun b ⟨i, o, e⟩ => by
    rw [getD_set] at o
    split at o
    · next h => rw [← h.1] at e; exact ⟨w, hw, e⟩
    · exact ⟨i, o, e⟩
  obtain ⟨a', ea, nz, _⟩ := ow_loc (I.sl w) hw
  rw [ha] at ea; cases ea
  refine ⟨by rw [List.length_set]; exact I.len, fun i => ?_, fun i j b hij hi hj ei => ?_, zd, fun i b e => hd b (I.dd i b e)⟩
  · rw [getD_set]
    split
    · next h => rw [← h.1, ha]; exact ok
    · next h =>
      by_cases hiw : i = w
      · subst hiw
        -- the slot is outside the list
        exfalso
        apply h
        refine ⟨rfl, ?_⟩
        by_cases hl : i < ρ.length
        · exact hl
        · rw [List.getD_eq_getElem?_getD, List.getElem?_eq_none (by omega)] at hw; exact hw.elim
      · have hb : ∀ b, ρD.getD i none = some (.loc b) → ρ.getD i .no ≠ .no → (∃ v, ρ.getD i .no = .val v) ∨ b ≠ a := fun b e hne => by
          by_cases hb : b = a
          · subst hb
            left
            cases q : ρ.getD i .no with
            | no => exact absurd q hne
            | val v => exact ⟨v, rfl⟩
            | own v => exact absurd e (I.dis w i b (Ne.symm hiw) hw (by rw [q]; trivial) ha)
            | ref v => exact absurd e (I.dis w i b (Ne.symm hiw) hw (by rw [q]; trivial) ha)
            | bor v =>
              have := I.sl i
              rw [q] at this
              obtain ⟨e1, h1, _, h3⟩ := this
              rw [e] at h1; cases h1
              exact absurd ⟨w, hw, ha⟩ (h3 b rfl)
          · exact .inr hb
        have hzs : ∀ b, Z b → s' b = s b := fun b z => hs b (I.zd b z) (by rintro rfl; exact nz z)
        have sl := I.sl i
        cases q : ρ.getD i .no with
        | no => trivial
        | val v =>
          rw [q] at sl
          intro u hu
          obtain ⟨e, h1, h2⟩ := sl u hu
          exact ⟨e, h1, h2.to hz hzs⟩
        | own v =>
          rw [q] at sl
          obtain ⟨b, o, h1, h2, h3, h4⟩ := sl
          have nb : b ≠ a := by
            rcases hb b h1 (by rw [q]; simp) with ⟨v', hv⟩ | h
            · rw [q] at hv; cases hv
            · exact h
          refine ⟨b, o, h1, fun z => ?_, by rw [hs b (by rw [h3]; simp) nb]; exact h3, h4.to hz hzs⟩
          rcases hn b z with z | z | z
          · exact h2 z
          · rw [h3] at z; cases z
          · exact nb z
        | ref v =>
          rw [q] at sl
          obtain ⟨b, o, h1, h2, h3, h4⟩ := sl
          have nb : b ≠ a := by
            rcases hb b h1 (by rw [q]; simp) with ⟨v', hv⟩ | h
            · rw [q] at hv; cases hv
            · exact h
          refine ⟨b, o, h1, fun z => ?_, by rw [hs b (by rw [h3]; simp) nb]; exact h3, h4.to hz hzs⟩
          rcases hn b z with z | z | z
          · exact h2 z
          · rw [h3] at z; cases z
          · exact nb z
        | bor v =>
          rw [q] at sl
          obtain ⟨e, h1, h2, h3⟩ := sl
          refine ⟨e, h1, h2.to hz hzs fun b eb => ?_, fun b eb f => h3 b eb (hF b f)⟩
          have nb : b ≠ a := by
            rcases hb b (by rw [h1, eb]) (by rw [q]; simp) with ⟨v', hv⟩ | h
            · rw [q] at hv; cases hv
            · exact h
          exact hs b (I.dd i b (by rw [h1, eb])) nb
  · have o1 : ∀ i, ow ((ρ.set w x).getD i .no) → ow (ρ.getD i .no) := fun i o => by
      rw [getD_set] at o
      split at o
      · next h => rw [← h.1]; exact hw
      · exact o
    exact I.dis i j b hij (o1 i hi) (o1 j hj) ei
theorem Fr.write {a : Nat} {o : O} (ha : F a) : Fr Z s F Z (s.up a o) F := by
  refine ⟨fun b e => ?_, fun b e nf => S.up_ne (by rintro rfl; exact nf ha), fun a z => z, fun a z => .inl z, fun a f => .inl f⟩
  by_cases h : b = a
  · subst h; rw [S.up_same]; simp
  · rw [S.up_ne h]; exact e
theorem wrO_inv {i : Nat} {n : U} (h : wrO ρ i n = some ρ') : ∃ x, ow (ρ.getD i .no) ∧ ow x ∧ ρ' = ρ.set i x ∧ (x = .own n ∨ x = .ref n) := by
  unfold wrO at h
  split at h
  · next v e => cases h; exact ⟨.own n, by rw [e]; trivial, trivial, rfl, .inl rfl⟩
  · next v e => cases h; exact ⟨.ref n, by rw [e]; trivial, trivial, rfl, .inr rfl⟩
  · cases h
theorem foot_set {w : Nat} {x : Sl} (hw : ow (ρ.getD w .no)) (b : Nat) (h : foot (ρ.set w x) ρD b) : foot ρ ρD b := by
  obtain ⟨i, o, e⟩ := h
  rw [getD_set] at o
  split at o
  · next h => rw [← h.1] at e; exact ⟨w, hw, e⟩
  · exact ⟨i, o, e⟩
/-- a write in place -/
theorem Inv.wr (I : Inv Z s ρ ρD) {i a : Nat} {n : U} {o : O} (h : wrO ρ i n = some ρ') (ha : ρD.getD i none = some (.loc a)) (r : contO Z s n o) : Inv Z (s.up a o) ρ' ρD ∧ Fr Z s (foot ρ ρD) Z (s.up a o) (foot ρ' ρD) := by
  obtain ⟨x, h1, h2, rfl, h3⟩ := wrO_inv h
  obtain ⟨a', ea, nz, _⟩ := ow_loc (I.sl i) h1
  rw [ha] at ea; cases ea
  have r' : contO Z (s.up a o) n o := r.to (fun _ z => z) fun b z => S.up_ne (by rintro rfl; exact nz z)
  refine ⟨I.write (o := o) h1 ha h2 (fun b e hb => S.up_ne hb) (fun b e => ?_) (fun b z => z) (fun b z => .inl z) (fun b z => ?_) nz ?_, ?_⟩
  · by_cases hb : b = a
    · subst hb; rw [S.up_same]; simp
    · rw [S.up_ne hb]; exact e
  · rw [S.up_ne (by rintro rfl; exact nz z)]; exact I.zd b z
  · rcases h3 with rfl | rfl
    · exact ⟨a, o, rfl, nz, S.up_same, r'⟩
    · exact ⟨a, o, rfl, nz, S.up_same, r'⟩
  · have := Fr.write (Z := Z) (s := s) (o := o) (F := foot ρ ρD) ⟨i, h1, ha⟩
    exact ⟨this.dom, this.pres, this.zup, this.znew, fun b f => .inl (foot_set h1 b f)⟩
/-- moved out -/
theorem Inv.mv (I : Inv Z s ρ ρD) {i : Nat} {v : U} (h : mvO ρ i = some (v, ρ')) : ∃ a, ρD.getD i none = some (.loc a) ∧ Inv (zadd Z a) s ρ' ρD ∧ Fr Z s (foot ρ ρD) (zadd Z a) s (foot ρ' ρD) ∧ rep (zadd Z a) s v (.loc a) := by
  unfold mvO at h
  split at h
  · next w e =>
    cases h
    have sl := I.sl i
    rw [e] at sl
    obtain ⟨a, o, h1, h2, h3, h4⟩ := sl
    have hw : ow (ρ.getD i .no) := by rw [e]; trivial
    refine ⟨a, h1, ⟨by rw [List.length_set]; exact I.len, fun j => ?_, fun j k b hjk oj ok ej => ?_, fun b z => ?_, I.dd⟩, ⟨fun b e => e, fun _ _ _ => rfl, fun b z => .inl z, fun b z => ?_, fun b f => .inl (foot_set hw b f)⟩, h4.fz h3⟩
    · rw [getD_set]
      split
      · trivial
      · next hj =>
        by_cases hij : i = j
        · subst hij
          exfalso; apply hj; refine ⟨rfl, ?_⟩
          by_cases hl : i < ρ.length
          · exact hl
          · rw [List.getD_eq_getElem?_getD, List.getElem?_eq_none (by omega)] at e; cases e
        · have sl := I.sl j
          cases q : ρ.getD j .no with
          | no => trivial
          | val u => rw [q] at sl; exact fun w hw' => by obtain ⟨d, g1, g2⟩ := sl w hw'; exact ⟨d, g1, g2.to (fun _ z => .inl z) fun _ _ => rfl⟩
          | own u =>
            rw [q] at sl; obtain ⟨b, o', g1, g2, g3, g4⟩ := sl
            refine ⟨b, o', g1, fun z => ?_, g3, g4.to (fun _ z => .inl z) fun _ _ => rfl⟩
            rcases z with z | rfl
            · exact g2 z
            · exact I.dis i j b hij hw (by rw [q]; trivial) h1 g1
          | ref u =>
            rw [q] at sl; obtain ⟨b, o', g1, g2, g3, g4⟩ := sl
            refine ⟨b, o', g1, fun z => ?_, g3, g4.to (fun _ z => .inl z) fun _ _ => rfl⟩
            rcases z with z | rfl
            · exact g2 z
            · exact I.dis i j b hij hw (by rw [q]; trivial) h1 g1
          | bor u => rw [q] at sl; obtain ⟨d, g1, g2, g3⟩ := sl; exact ⟨d, g1, g2.to (fun _ z => .inl z) (fun _ _ => rfl) fun _ _ => rfl, fun b eb f => g3 b eb (foot_set hw b f)⟩
    · have o1 : ∀ k, ow ((ρ.set i .no).getD k .no) → ow (ρ.getD k .no) := fun k o => by
        rw [getD_set] at o
        split at o
        · exact o.elim
        · exact o
      exact I.dis j k b hjk (o1 j oj) (o1 k ok) ej
    · rcases z with z | rfl
      · exact I.zd b z
      · rw [h3]; simp
    · rcases z with z | rfl
      · exact .inl z
      · exact .inr (.inr ⟨i, hw, h1⟩)
  · cases h
end
end PL
end

section
set_option autoImplicit false
set_option linter.all false
set_option maxHeartbeats 4000000
namespace PL
open PySem PySem.W PySem.SeqAt

theorem bd_some {α β : Type} {x : Option (α × Env)} {f : α → Env → Option β} {r : β} : bd x f = some r ↔ ∃ a ρ, x = some (a, ρ) ∧ f a ρ = some r := by
  unfold bd
  cases x with
  | none => simp
  | some p =>
    obtain ⟨a, ρ⟩ := p
    refine ⟨fun h => ⟨a, ρ, rfl, h⟩, ?_⟩
    rintro ⟨a', ρ', e, h⟩
    cases e
    exact h
def ownI : E → Option Nat
  | .own i => some i
  | _ => none
def freshB : Bi → Bool
  | .list => true | .sorted => true | .sortedRev => true | .listR _ => true | .dict => true
  | _ => false
def freshE : E → Bool
  | .lst _ => true | .dic _ _ => true | .bin _ _ _ => true | .sl _ _ _ => true | .comp .. => true | .bi b _ => freshB b
  | _ => false
/-! ### what may be written -/
def argCk : List Pc → List E → Bool
  | [], [] => true
  | .val :: cs, e :: es => (ownI e).isNone && argCk cs es
  | .bor :: cs, _ :: es => argCk cs es
  | .ref :: cs, e :: es => ((ownI e).isSome || freshE e) && argCk cs es
  | _, _ => false
/-- what is written is read nowhere else -/
def refI : List Pc → List E → List Nat
  | c :: cs, e :: es => (if c = .ref then (ownI e).toList else []) ++ refI cs es
  | _, _ => []
def othI : List Pc → List E → List Nat
  | c :: cs, e :: es => (if c = .ref then [] else (ownI e).toList) ++ othI cs es
  | _, _ => []
def callCk (cl : List Pc) (es : List E) : Bool := argCk cl es && decide (cl.count .ref ≤ 1) && (refI cl es).all fun i => !(othI cl es).contains i
mutual
def vokE (Γ : Cls) : E → Bool
  | .tup es => (es.all fun e => (ownI e).isNone) && vokEs Γ es
  | .lst es => (es.all fun e => (ownI e).isNone) && vokEs Γ es
  | .dic ks es => (es.all fun e => (ownI e).isNone) && vokEs Γ es
  | .bin _ a b => vokE Γ a && vokE Γ b
  | .neg a => vokE Γ a
  | .not a => vokE Γ a
  | .and es => (es.all fun e => (ownI e).isNone) && vokEs Γ es
  | .or es => (es.all fun e => (ownI e).isNone) && vokEs Γ es
  | .ife c a b => vokT Γ c && vokE Γ a && vokE Γ b && (ownI a).isNone && (ownI b).isNone
  | .cmp _ a b => vokE Γ a && vokE Γ b
  | .chain _ _ a b c => vokE Γ a && vokE Γ b && vokE Γ c
  | .isN _ a => vokE Γ a
  | .call f es => callCk ((Γ[f]?).getD []) es && vokEs Γ es
  | .bi _ es => vokEs Γ es
  | .mt m o es => vokE Γ o && vokEs Γ es && (decide (m = .extend) || es.all fun e => (ownI e).isNone)
  | .ix a b => vokE Γ a && vokE Γ b
  | .sl a lo hi => vokE Γ a && vokO Γ lo && vokO Γ hi
  | .comp el tg tup it cond own => vokI Γ it && vokO' Γ cond && vokE Γ el && (ownI el).isNone && tg.all own.contains
  | _ => true
def vokEs (Γ : Cls) : List E → Bool
  | [] => true
  | e :: es => vokE Γ e && vokEs Γ es
def vokO (Γ : Cls) : Option E → Bool
  | none => true
  | some e => vokE Γ e
def vokO' (Γ : Cls) : Option E → Bool
  | none => true
  | some e => vokT Γ e
def vokT (Γ : Cls) : E → Bool
  | .not a => vokT Γ a
  | .and es => vokTs Γ es
  | .or es => vokTs Γ es
  | .ife c a b => vokT Γ c && vokT Γ a && vokT Γ b
  | .isN _ a => vokE Γ a
  | .chain _ _ a b c => vokE Γ a && vokE Γ b && vokE Γ c
  | .cmp _ a b => vokE Γ a && vokE Γ b
  | .val e => vokE Γ e
  | _ => true
def vokTs (Γ : Cls) : List E → Bool
  | [] => true
  | e :: es => vokT Γ e && vokTs Γ es
def vokI (Γ : Cls) : E → Bool
  | .rng es => vokEs Γ es
  | .zip a b => vokE Γ a && vokE Γ b && (ownI a).isNone && (ownI b).isNone
  | .rev a => vokE Γ a
  | .itm a => vokE Γ a
  | .val e => vokE Γ e
  | _ => true
end

/-! ### what is known of a result -/
section
variable (s0 : S) (Z : Nat → Prop) (s : S) (ρ : Env) (ρD : Vs)
def tmpOk (v : U) (d : D) : Prop := ∃ a o, d = .loc a ∧ s0 a = none ∧ (∀ i, ρD.getD i none ≠ some (.loc a)) ∧ ¬Z a ∧ s a = some o ∧ contO Z s v o
def RT (e : E) (v : U) (d : D) : Prop := match ownI e with
  | some i => ρD.getD i none = some d ∧ rdO ρ i = some v
  | none => if freshE e = true ∧ isC v = true then tmpOk s0 Z s ρD v d else rep Z s v d
/-- read -/
def RR (e : E) (v : U) (d : D) : Prop := match ownI e with
  | some i => ρD.getD i none = some d ∧ rdO ρ i = some v
  | none => rep Z s v d
end
section
variable {s0 : S} {Z Z' : Nat → Prop} {s s' : S} {ρ ρ' : Env} {ρD : Vs} {e : E} {v v' : U} {d : D} {Q : Post}
theorem ownI_some {i : Nat} (h : ownI e = some i) : e = .own i := by
  cases e <;> simp [ownI] at h
  rw [h]
theorem ownI_fresh (h : freshE e = true) : ownI e = none := by cases e <;> simp [freshE, ownI] at *
theorem rdO_bnd {i : Nat} (h : rdO ρ i = some v) : ρ.getD i .no = .own v ∨ ρ.getD i .no = .ref v ∨ ρ.getD i .no = .bor v := by
  unfold rdO at h
  split at h <;> simp_all
theorem Inv.rd (I : Inv Z s ρ ρD) {i : Nat} (h : rdO ρ i = some v) (hd : ρD.getD i none = some d) : rdb Z s v d := by
  have sl := I.sl i
  have key : ∀ a o, s a = some o → contO Z s v o → rdb Z s v (.loc a) := fun a o e r => by
    cases v <;> cases o <;> simp only [contO] at r <;> simp only [rdb] <;> exact ⟨a, _, rfl, e, by simpa only [contO] using r⟩
  rcases rdO_bnd h with e | e | e <;> rw [e] at sl
  · obtain ⟨a, o, h1, h2, h3, h4⟩ := sl
    rw [hd] at h1; cases h1
    exact key a o h3 h4
  · obtain ⟨a, o, h1, h2, h3, h4⟩ := sl
    rw [hd] at h1; cases h1
    exact key a o h3 h4
  · obtain ⟨e1, h1, h2, _⟩ := sl
    rw [hd] at h1; cases h1
    exact h2
theorem Fr.rep {F' : Nat → Prop} (f : Fr Z s (foot ρ ρD) Z' s' F') (I : Inv Z s ρ ρD) (h : rep Z s v d) : rep Z' s' v d :=
  h.to f.zup fun a z => f.pres a (I.zd a z) fun g => (I.fz g).1 z
theorem Fr.reps {vs : List U} {ds : List D} {F' : Nat → Prop} (f : Fr Z s (foot ρ ρD) Z' s' F') (I : Inv Z s ρ ρD) (h : reps Z s vs ds) : reps Z' s' vs ds :=
  h.to f.zup fun a z => f.pres a (I.zd a z) fun g => (I.fz g).1 z
theorem RR.later (h : RR Z s ρ ρD e v d) (f : Fr Z s (foot ρ ρD) Z' s' (foot ρ' ρD)) (I : Inv Z s ρ ρD) (I' : Inv Z' s' ρ' ρD) (e' : rdA e v ρ' = some v') : rdb Z' s' v' d := by
  unfold RR at h
  cases q : ownI e with
  | none =>
    rw [q] at h
    have : v' = v := by cases e <;> simp [ownI] at q <;> simp [rdA] at e' <;> exact e'.symm
    subst this
    exact (f.rep I h).rd
  | some i =>
    rw [q] at h
    obtain rfl := ownI_some q
    exact I'.rd (by simpa [rdA] using e') h.1
theorem RR.now (h : RR Z s ρ ρD e v d) (I : Inv Z s ρ ρD) : rdb Z s v d := by
  unfold RR at h
  cases q : ownI e with
  | none => rw [q] at h; exact h.rd
  | some i => rw [q] at h; exact I.rd h.2 h.1
/-- a new thing is never written again: it may stand anywhere -/
theorem tmp_freeze {F : Nat → Prop} {Z0 : Nat → Prop} {s1 : S} (f : Fr Z0 s0 F Z s (foot ρ ρD)) (I : Inv Z s ρ ρD) (h : tmpOk s0 Z s ρD v d) : ∃ Z2, Fr Z0 s0 F Z2 s (foot ρ ρD) ∧ Inv Z2 s ρ ρD ∧ PL.rep Z2 s v d := by
  obtain ⟨a, o, rfl, h0, hd, nz, e, r⟩ := h
  refine ⟨zadd Z a, ⟨f.dom, f.pres, fun b z => .inl (f.zup b z), fun b z => ?_, f.fnew⟩, I.freeze hd (by rw [e]; simp), r.fz e⟩
  rcases z with z | rfl
  · exact f.znew b z
  · exact .inr (.inl h0)
theorem RT.rep (h : RT s0 Z s ρ ρD e v d) (ho : ownI e = none) : tmpOk s0 Z s ρD v d ∨ PL.rep Z s v d := by
  unfold RT at h
  rw [ho] at h
  simp only at h
  split at h
  · exact .inl h
  · exact .inr h
/-- what a primitive gives -/
theorem res_of {F : Nat → Prop} {Z0 : Nat → Prop} (ho : ownI e = none) (f : Fr Z0 s0 F Z s (foot ρ ρD)) (I : Inv Z s ρ ρD)
    (K : ∀ d s' Z', Fr Z0 s0 F Z' s' (foot ρ ρD) → Inv Z' s' ρ ρD → RT s0 Z' s' ρ ρD e v d → Q d s') : Res Z s v Q := by
  unfold Res
  split
  · next hc =>
    intro p o hp r
    have n0 : s0 p = none := by
      cases q : s0 p with
      | none => rfl
      | some u => exact absurd hp (f.dom p (by rw [q]; simp))
    have I' : Inv Z (s.up p o) ρ ρD := I.alloc hp
    have f' : Fr Z0 s0 F Z (s.up p o) (foot ρ ρD) := f.trans (Fr.alloc hp)
    have t : tmpOk s0 Z (s.up p o) ρD v (.loc p) := ⟨p, o, rfl, n0, fun i e => I.dd i p e hp, fun z => I.zd p z hp, S.up_same, r.to (fun _ z => z) fun a z => S.up_ne (by rintro rfl; exact I.zd _ z hp)⟩
    by_cases hf : freshE e = true
    · refine K _ _ Z f' I' ?_
      unfold RT; rw [ho]
      simp only
      rw [if_pos ⟨hf, hc⟩]
      exact t
    · obtain ⟨Z2, f2, I2, r2⟩ := tmp_freeze (s1 := s) f' I' t
      refine K _ _ Z2 f2 I2 ?_
      unfold RT; rw [ho]
      simp only
      rw [if_neg (fun z => hf z.1)]
      exact r2
  · next hc =>
    intro d r
    refine K _ _ Z f I ?_
    unfold RT; rw [ho]
    simp only
    rw [if_neg (fun z => hc z.2)]
    exact r
theorem RT.mk (ho : ownI e = none) (hf : freshE e = false) (r : PL.rep Z s v d) : RT s0 Z s ρ ρD e v d := by
  unfold RT; rw [ho]
  simp only
  rw [if_neg (by rw [hf]; simp)]
  exact r
theorem RT.flat (ho : ownI e = none) (hc : isC v = false) (r : PL.rep Z s v d) : RT s0 Z s ρ ρD e v d := by
  unfold RT; rw [ho]
  simp only
  rw [if_neg (by rw [hc]; simp)]
  exact r
end
end PL
end

section
set_option autoImplicit false
set_option linter.all false
set_option maxHeartbeats 4000000
namespace PL
open PySem PySem.W PySem.SeqAt

/-! ## calls -/
def refLoc (cl : List Pc) (ds : List D) (a : Nat) : Prop := ∃ j : Nat, cl[j]? = some Pc.ref ∧ ds[j]? = some (D.loc a)
def argOk (Z : Nat → Prop) (s : S) (F : Nat → Prop) : Pc → U → D → Prop
  | .val, v, d => rep Z s v d
  | .bor, v, d => rdb Z s v d ∧ ∀ a, d = .loc a → ¬F a ∧ s a ≠ none
  | .ref, v, d => ∃ a o, d = .loc a ∧ ¬Z a ∧ s a = some o ∧ contO Z s v o
def argsOk (Z : Nat → Prop) (s : S) (F : Nat → Prop) : List Pc → List U → List D → Prop
  | [], vs, ds => vs = [] ∧ ds = []
  | c :: cs, vs, ds => ∃ v vr d dr, vs = v :: vr ∧ ds = d :: dr ∧ argOk Z s F c v d ∧ argsOk Z s F cs vr dr
/-- the objects handed on, as they are left -/
def finOk (Z : Nat → Prop) (s : S) : List Pc → List D → List (Option U) → Prop
  | .ref :: cs, d :: ds, some v :: fs => (∃ a o, d = .loc a ∧ ¬Z a ∧ s a = some o ∧ contO Z s v o) ∧ finOk Z s cs ds fs
  | .val :: cs, _ :: ds, none :: fs => finOk Z s cs ds fs
  | .bor :: cs, _ :: ds, none :: fs => finOk Z s cs ds fs
  | [], [], [] => True
  | _, _, _ => False
structure CallOk (Γ : Cls) (C : Cv) (Cd : Cs) : Prop where
  mono : CsLe Cd Cd
  run : ∀ f vs r fin, C f vs = some (r, fin) → ∀ Z s ds (Q : Post), (∀ a, Z a → s a ≠ none) → argsOk Z s (refLoc ((Γ[f]?).getD []) ds) ((Γ[f]?).getD []) vs ds → ((Γ[f]?).getD []).count .ref ≤ 1 →
    (∀ d s' Z', Fr Z s (refLoc ((Γ[f]?).getD []) ds) Z' s' (refLoc ((Γ[f]?).getD []) ds) → rep Z' s' r d → (∀ a, Z' a → s' a ≠ none) → (if ((Γ[f]?).getD []).contains .ref = true then finOk Z' s' ((Γ[f]?).getD []) ds fin else fin = []) → Q d s') → Cd f ds s Q
  refs : ∀ f vs r fin, C f vs = some (r, fin) → refsC ((Γ[f]?).getD []) vs = true
  fins : ∀ f vs r fin, C f vs = some (r, fin) → ((Γ[f]?).getD []).contains .ref = true → ∀ j : Nat, ((Γ[f]?).getD [])[j]? = some Pc.ref → ∃ v : U, fin[j]? = some (some v)
section
variable {Γ : Cls} {C : Cv} {Cd : Cs}
/-- as it is later: what was read, anew -/
def AR2 (s0 : S) (Z : Nat → Prop) (s : S) (ρD : Vs) (c : Pc) (e : E) (v : U) (d : D) : Prop := match ownI e with
    | some i => ρD.getD i none = some d
    | none => if c = .ref ∧ freshE e = true ∧ isC v = true then tmpOk s0 Z s ρD v d else rep Z s v d
def AR2s (s0 : S) (Z : Nat → Prop) (s : S) (ρD : Vs) : List Pc → List E → List U → List D → Prop
  | [], [], [], [] => True
  | c :: cs, e :: es, v :: vs, d :: ds => AR2 s0 Z s ρD c e v d ∧ AR2s s0 Z s ρD cs es vs ds
  | _, _, _, _ => False
theorem tmp_later {s0 : S} {Z Z' : Nat → Prop} {s s' : S} {ρ ρ' : Env} {ρD : Vs} {v : U} {d : D} (h : tmpOk s0 Z s ρD v d) (f : Fr Z s (foot ρ ρD) Z' s' (foot ρ' ρD)) (I : Inv Z s ρ ρD) : tmpOk s0 Z' s' ρD v d := by
  obtain ⟨a, o, rfl, h0, hd, nz, e, r⟩ := h
  have nf : ¬foot ρ ρD a := fun ⟨i, _, e⟩ => hd i e
  refine ⟨a, o, rfl, h0, hd, fun z => ?_, by rw [f.pres a (by rw [e]; simp) nf]; exact e, r.to f.zup fun b z => f.pres b (I.zd b z) fun g => (I.fz g).1 z⟩
  rcases f.znew a z with z | z | z
  · exact nz z
  · rw [e] at z; cases z
  · exact nf z
theorem tmp_s0 {s0 s1 : S} {Z : Nat → Prop} {s : S} {ρD : Vs} {v : U} {d : D} (h : tmpOk s1 Z s ρD v d) (l : ∀ a, s0 a ≠ none → s1 a ≠ none) : tmpOk s0 Z s ρD v d := by
  obtain ⟨a, o, e1, h0, r⟩ := h
  refine ⟨a, o, e1, ?_, r⟩
  cases q : s0 a with
  | none => rfl
  | some u => exact absurd h0 (l a (by rw [q]; simp))
theorem AR2.later {s0 : S} {Z Z' : Nat → Prop} {s s' : S} {ρ ρ' : Env} {ρD : Vs} {c : Pc} {e : E} {v : U} {d : D} (h : AR2 s0 Z s ρD c e v d) (f : Fr Z s (foot ρ ρD) Z' s' (foot ρ' ρD)) (I : Inv Z s ρ ρD) : AR2 s0 Z' s' ρD c e v d := by
  unfold AR2 at h ⊢
  cases q : ownI e with
  | some i => rw [q] at h; exact h
  | none =>
    rw [q] at h
    simp only at h ⊢
    split at h
    · next hc => rw [if_pos hc]; exact tmp_later h f I
    · next hc => rw [if_neg hc]; exact f.rep I h
theorem contains_cons {c : Pc} {cs : List Pc} : (c :: cs).contains .ref = (decide (c = .ref) || cs.contains .ref) := by
  cases c <;> simp
/-- the operands at the call -/
theorem args_of {s0 : S} {Z : Nat → Prop} {s : S} {ρ : Env} {ρD : Vs} (I : Inv Z s ρ ρD) (hs0 : ∀ i a, ρD.getD i none = some (.loc a) → s0 a ≠ none) (F : Nat → Prop) : ∀ {cl : List Pc} {es : List E} {vs vs' : List U} {ds : List D}, AR2s s0 Z s ρD cl es vs ds → rdAs es vs ρ = some vs' → argCk cl es = true → refsC cl vs' = true →
    (∀ a, F a → ¬Z a) → (∀ i ∈ othI cl es, ∀ a, ρD.getD i none = some (.loc a) → ¬F a) → (∀ i ∈ refI cl es, ow (ρ.getD i .no)) → argsOk Z s F cl vs' ds
  | [], [], [], vs', [], h, e, _, _, _, _, _ => by
    simp only [rdAs, Option.some.injEq] at e
    subst e
    exact ⟨rfl, rfl⟩
  | c :: cs, x :: es, v :: vs, vs', d :: ds, h, e, hc, hr, hF, ho, hw => by
    simp only [AR2s] at h
    obtain ⟨h1, h2⟩ := h
    unfold rdAs at e
    obtain ⟨v', e1, e⟩ := Option.bind_eq_some_iff.mp e
    obtain ⟨r, e2, rfl⟩ := Option.map_eq_some_iff.mp e
    have step : argsOk Z s F cs r ds → argOk Z s F c v' d → argsOk Z s F (c :: cs) (v' :: r) (d :: ds) := fun h1 h2 => ⟨_, _, _, _, rfl, rfl, h2, h1⟩
    cases c with
    | val =>
      simp only [argCk, Bool.and_eq_true, Option.isNone_iff_eq_none] at hc
      refine step (args_of I hs0 F h2 e2 hc.2 (by simpa [refsC] using hr) hF (fun i hi => ho i ?_) fun i hi => hw i (by simpa [refI] using hi)) ?_
      · simp only [othI, List.mem_append]; exact .inr hi
      · unfold AR2 at h1
        rw [hc.1] at h1
        simp at h1
        have : v' = v := by cases x <;> simp [ownI] at hc <;> simp [rdA] at e1 <;> exact e1.symm
        subst this
        exact h1
    | bor =>
      simp only [argCk] at hc
      refine step (args_of I hs0 F h2 e2 hc (by simpa [refsC] using hr) hF (fun i hi => ho i ?_) fun i hi => hw i (by simpa [refI] using hi)) ?_
      · simp only [othI, List.mem_append]; exact .inr hi
      · unfold AR2 at h1
        cases q : ownI x with
        | none =>
          rw [q] at h1
          simp at h1
          have : v' = v := by cases x <;> simp [ownI] at q <;> simp [rdA] at e1 <;> exact e1.symm
          subst this
          refine ⟨h1.rd, fun a ea => ?_⟩
          have za : Z a := by
            subst ea
            cases v' <;> simp only [rep, reduceCtorEq] at h1
            · obtain ⟨_, h, _⟩ := h1; cases h
            · obtain ⟨a', _, h, z, _⟩ := h1; cases h; exact z
            · obtain ⟨a', _, h, z, _⟩ := h1; cases h; exact z
            · obtain ⟨a', _, h, z, _⟩ := h1; cases h; exact z
          exact ⟨fun f => hF a f za, I.zd a za⟩
        | some i =>
          rw [q] at h1
          simp only at h1
          obtain rfl := ownI_some q
          exact ⟨I.rd (by simpa [rdA] using e1) h1, fun a ea => ⟨ho i (by simp [othI, ownI]) a (by rw [h1, ea]), I.dd i a (by rw [h1, ea])⟩⟩
    | ref =>
      simp only [argCk, Bool.and_eq_true] at hc
      simp only [refsC, Bool.and_eq_true] at hr
      refine step (args_of I hs0 F h2 e2 hc.2 hr.2 hF (fun i hi => ho i (by simpa [othI] using hi)) fun i hi => hw i ?_) ?_
      · simp only [refI, List.mem_append]; exact .inr hi
      · unfold AR2 at h1
        cases q : ownI x with
        | none =>
          rw [q] at h1
          have hf : freshE x = true := by rw [q] at hc; simpa using hc.1
          have : v' = v := by cases x <;> simp [ownI] at q <;> simp [rdA] at e1 <;> exact e1.symm
          subst this
          simp only at h1
          rw [if_pos ⟨trivial, hf, hr.1⟩] at h1
          obtain ⟨a, o, rfl, _, _, nz, e, r⟩ := h1
          exact ⟨a, o, rfl, nz, e, r⟩
        | some i =>
          rw [q] at h1
          simp only at h1
          obtain rfl := ownI_some q
          have hi := hw i (by simp [refI, ownI])
          have sl := I.sl i
          have rd : rdO ρ i = some v' := by simpa [rdA] using e1
          rcases rdO_bnd rd with e | e | e
          · rw [e] at sl
            obtain ⟨a, o, g1, g2, g3, g4⟩ := sl
            rw [h1] at g1; cases g1
            exact ⟨a, o, rfl, g2, g3, g4⟩
          · rw [e] at sl
            obtain ⟨a, o, g1, g2, g3, g4⟩ := sl
            rw [h1] at g1; cases g1
            exact ⟨a, o, rfl, g2, g3, g4⟩
          · rw [e] at hi; exact hi.elim
  | [], _ :: _, _, _, _, h, _, _, _, _, _, _ => by simp [AR2s] at h
  | _ :: _, [], _, _, _, h, _, _, _, _, _, _ => by simp [AR2s] at h
  | [], [], _ :: _, _, _, h, _, _, _, _, _, _ => by simp [AR2s] at h
  | [], [], [], _, _ :: _, h, _, _, _, _, _, _ => by simp [AR2s] at h
  | _ :: _, _ :: _, [], _, _, h, _, _, _, _, _, _ => by simp [AR2s] at h
  | _ :: _, _ :: _, _ :: _, _, [], h, _, _, _, _, _, _ => by simp [AR2s] at h
end
end PL
end

section
set_option autoImplicit false
set_option linter.all false
set_option maxHeartbeats 4000000
namespace PL
open PySem PySem.W PySem.SeqAt

/-! ## from one state to a later one -/
structure Go (Z : Nat → Prop) (s : S) (ρ : Env) (ρD : Vs) (Z' : Nat → Prop) (s' : S) (ρ' : Env) (ρD' : Vs) : Prop where
  fr : Fr Z s (foot ρ ρD) Z' s' (foot ρ' ρD')
  bo : ∀ i v, ρ'.getD i .no = .bor v → ρ.getD i .no = .bor v ∧ ρD'.getD i none = ρD.getD i none
  rf : ∀ i v, ρ.getD i .no = .ref v → (∃ v', ρ'.getD i .no = .ref v') ∧ ρD'.getD i none = ρD.getD i none
section
variable {Z Z' Z1 Z2 : Nat → Prop} {s s' s1 s2 : S} {ρ ρ' ρ1 ρ2 : Env} {ρD ρD1 ρD2 ρD' : Vs} {v : U} {d : D}
theorem Go.refl : Go Z s ρ ρD Z s ρ ρD := ⟨Fr.refl, fun _ _ h => ⟨h, rfl⟩, fun _ v h => ⟨⟨v, h⟩, rfl⟩⟩
theorem Go.trans (h : Go Z s ρ ρD Z1 s1 ρ1 ρD1) (k : Go Z1 s1 ρ1 ρD1 Z2 s2 ρ2 ρD2) : Go Z s ρ ρD Z2 s2 ρ2 ρD2 := by
  refine ⟨h.fr.trans k.fr, fun i v e => ?_, fun i v e => ?_⟩
  · obtain ⟨e1, d1⟩ := k.bo i v e
    obtain ⟨e2, d2⟩ := h.bo i v e1
    exact ⟨e2, d1.trans d2⟩
  · obtain ⟨⟨v1, e1⟩, d1⟩ := h.rf i v e
    obtain ⟨e2, d2⟩ := k.rf i v1 e1
    exact ⟨e2, d2.trans d1⟩
theorem Go.here (f : Fr Z s (foot ρ ρD) Z' s' (foot ρ ρD)) : Go Z s ρ ρD Z' s' ρ ρD := ⟨f, fun _ _ h => ⟨h, rfl⟩, fun _ v h => ⟨⟨v, h⟩, rfl⟩⟩
theorem Go.of_set {i : Nat} {x : Sl} (f : Fr Z s (foot ρ ρD) Z' s' (foot (ρ.set i x) ρD)) (hx : ∀ v, x ≠ .bor v) (hr : ∀ v, ρ.getD i .no = .ref v → ∃ v', x = .ref v') : Go Z s ρ ρD Z' s' (ρ.set i x) ρD := by
  refine ⟨f, fun j v e => ⟨?_, rfl⟩, fun j v e => ⟨?_, rfl⟩⟩
  · rw [getD_set] at e
    split at e
    · exact absurd e (hx v)
    · exact e
  · rw [getD_set]
    split
    · next h => rw [← h.1] at e; exact hr v e
    · exact ⟨v, e⟩
/-- a name told anew -/
theorem Inv.put (I : Inv Z s ρ ρD) {i : Nat} {x : Sl} (hd : ∀ a, d = .loc a → s a ≠ none) (hx : slotOk Z s (foot ρ ρD) x (some d)) (hb : ∀ v, x ≠ .bor v) (hn : ow x → ∀ a, d = .loc a → ∀ j, ρD.getD j none ≠ some (.loc a)) : Inv Z s (ρ.set i x) (ρD.set i (some d)) := by
  have ln := I.len
  have g1 : ∀ j, (ρ.set i x).getD j .no = if i = j ∧ i < ρ.length then x else ρ.getD j .no := fun j => getD_set _ _ _ _ _
  have g2 : ∀ j, (ρD.set i (some d)).getD j none = if i = j ∧ i < ρ.length then some d else ρD.getD j none := fun j => by rw [getD_set, ln]
  have hF : ∀ a, foot (ρ.set i x) (ρD.set i (some d)) a → (ow x ∧ d = .loc a) ∨ foot ρ ρD a := fun a ⟨j, o, e⟩ => by
    rw [g1] at o
    rw [g2] at e
    by_cases h : i = j ∧ i < ρ.length
    · rw [if_pos h] at o e; exact .inl ⟨o, Option.some.inj e⟩
    · rw [if_neg h] at o e; exact .inr ⟨j, o, e⟩
  refine ⟨by rw [List.length_set, List.length_set]; exact ln, fun j => ?_, fun j k a hjk oj ok ej => ?_, I.zd, fun j a e => ?_⟩
  · rw [g1, g2]
    by_cases h : i = j ∧ i < ρ.length
    · rw [if_pos h, if_pos h]
      cases x with
      | bor v => exact absurd rfl (hb v)
      | no => trivial
      | val v => exact hx
      | own v => exact hx
      | ref v => exact hx
    · rw [if_neg h, if_neg h]
      refine (I.sl j).to (fun _ z => z) (fun _ _ => rfl) (fun a e => ⟨rfl, id⟩) fun a e f => ?_
      rcases hF a f with ⟨o, ed⟩ | f
      · exact absurd e (hn o a ed j)
      · exact f
  · rw [g1] at oj ok
    rw [g2] at ej ⊢
    by_cases h1 : i = j ∧ i < ρ.length
    · rw [if_pos h1] at oj ej
      have h2 : ¬(i = k ∧ i < ρ.length) := fun z => hjk (h1.1.symm.trans z.1)
      rw [if_neg h2]
      exact hn oj a (Option.some.inj ej) k
    · rw [if_neg h1] at oj ej
      by_cases h2 : i = k ∧ i < ρ.length
      · rw [if_pos h2] at ok ⊢
        intro e
        exact hn ok a (Option.some.inj e) j ej
      · rw [if_neg h2] at ok ⊢
        exact I.dis j k a hjk oj ok ej
  · rw [g2] at e
    split at e
    · exact hd a (Option.some.inj e)
    · exact I.dd j a e
theorem rep_loc {a : Nat} (h : rep Z s v (.loc a)) : Z a := by
  cases v <;> simp only [rep, reduceCtorEq] at h
  · obtain ⟨_, h, _⟩ := h; cases h
  · obtain ⟨a', _, h, z, _⟩ := h; cases h; exact z
  · obtain ⟨a', _, h, z, _⟩ := h; cases h; exact z
  · obtain ⟨a', _, h, z, _⟩ := h; cases h; exact z
theorem Inv.setV (I : Inv Z s ρ ρD) {i : Nat} (r : rep Z s v d) : Inv Z s (ρ.set i (.val (some v))) (ρD.set i (some d)) :=
  I.put (fun a e => I.zd a (by subst e; exact rep_loc r)) (fun u hu => by cases hu; exact ⟨d, rfl, r⟩) (by simp) (fun o => o.elim)
theorem foot_put {i : Nat} {x : Sl} {od : Option D} (ln : ρ.length = ρD.length) (a : Nat) (h : foot (ρ.set i x) (ρD.set i od) a) : (ow x ∧ od = some (.loc a)) ∨ foot ρ ρD a := by
  obtain ⟨j, o, e⟩ := h
  rw [getD_set] at o e
  rw [← ln] at e
  by_cases h : i = j ∧ i < ρ.length
  · rw [if_pos h] at o e; exact .inl ⟨o, e⟩
  · rw [if_neg h] at o e; exact .inr ⟨j, o, e⟩
theorem stV_go (I : Inv Z s ρ ρD) {i : Nat} (h : stV ρ i v = some ρ') (r : rep Z s v d) : Inv Z s ρ' (ρD.set i (some d)) ∧ Go Z s ρ ρD Z s ρ' (ρD.set i (some d)) := by
  have key : (ρ.getD i .no = .no ∨ ∃ u, ρ.getD i .no = .val u) ∧ ρ' = ρ.set i (.val (some v)) := by
    unfold stV at h
    split at h
    · next e => cases h; exact ⟨.inl e, rfl⟩
    · next u e => cases h; exact ⟨.inr ⟨u, e⟩, rfl⟩
    · cases h
  obtain ⟨hk, rfl⟩ := key
  refine ⟨I.setV r, ⟨fun a e => e, fun _ _ _ => rfl, fun a z => z, fun a z => .inl z, fun a f => ?_⟩, fun j w e => ?_, fun j w e => ?_⟩
  · rcases foot_put I.len a f with ⟨o, _⟩ | f
    · exact o.elim
    · exact .inl f
  · rw [getD_set] at e
    by_cases h : i = j ∧ i < ρ.length
    · rw [if_pos h] at e; cases e
    · rw [if_neg h] at e
      refine ⟨e, ?_⟩
      rw [getD_set, ← I.len, if_neg h]
  · have h : ¬(i = j ∧ i < ρ.length) := fun z => by
      rw [← z.1] at e
      rcases hk with k | ⟨u, k⟩ <;> rw [k] at e <;> cases e
    rw [getD_set, getD_set, ← I.len, if_neg h, if_neg h]
    exact ⟨⟨w, e⟩, rfl⟩
theorem stO_go (I : Inv Z s ρ ρD) {i : Nat} {s0 : S} (h : stO ρ i v = some ρ') (r : tmpOk s0 Z s ρD v d) : Inv Z s ρ' (ρD.set i (some d)) ∧ (∀ a, s0 a = none → foot ρ' (ρD.set i (some d)) a → foot ρ ρD a ∨ s0 a = none) ∧ (∀ a, foot ρ' (ρD.set i (some d)) a → foot ρ ρD a ∨ s0 a = none) ∧
    (∀ j w, ρ'.getD j .no = .bor w → ρ.getD j .no = .bor w ∧ (ρD.set i (some d)).getD j none = ρD.getD j none) ∧ (∀ j w, ρ.getD j .no = .ref w → (∃ w', ρ'.getD j .no = .ref w') ∧ (ρD.set i (some d)).getD j none = ρD.getD j none) := by
  obtain ⟨a, o, rfl, h0, hd, nz, e, c⟩ := r
  have key : (ρ.getD i .no = .no ∨ (∃ u, ρ.getD i .no = .own u) ∨ ρ.getD i .no = .val none) ∧ ρ' = ρ.set i (.own v) := by
    unfold stO at h
    split at h
    · next e => split at h <;> cases h; exact ⟨.inl e, rfl⟩
    · next u e => split at h <;> cases h; exact ⟨.inr (.inl ⟨u, e⟩), rfl⟩
    · next e => split at h <;> cases h; exact ⟨.inr (.inr e), rfl⟩
    · cases h
  obtain ⟨hk, rfl⟩ := key
  have hf : ∀ b, foot (ρ.set i (.own v)) (ρD.set i (some (.loc a))) b → foot ρ ρD b ∨ s0 b = none := fun b f => by
    rcases foot_put I.len b f with ⟨_, e⟩ | f
    · cases e; exact .inr h0
    · exact .inl f
  refine ⟨I.put (fun b eb => by cases eb; rw [e]; simp) ⟨a, o, rfl, nz, e, c⟩ (by simp) (fun _ b eb j => by cases eb; exact hd j), fun b _ f => hf b f, hf, fun j w e => ?_, fun j w e => ?_⟩
  · rw [getD_set] at e
    by_cases h : i = j ∧ i < ρ.length
    · rw [if_pos h] at e; cases e
    · rw [if_neg h] at e
      refine ⟨e, ?_⟩
      rw [getD_set, ← I.len, if_neg h]
  · have h : ¬(i = j ∧ i < ρ.length) := fun z => by
      rw [← z.1] at e
      rcases hk with k | ⟨u, k⟩ | k <;> rw [k] at e <;> cases e
    rw [getD_set, getD_set, ← I.len, if_neg h, if_neg h]
    exact ⟨⟨w, e⟩, rfl⟩
/-! ### locks -/
theorem Inv.lock (I : Inv Z s ρ ρD) (lk : Option Nat) : Inv Z s (lockO lk ρ) ρD ∧ (∀ a, foot (lockO lk ρ) ρD a → foot ρ ρD a) ∧ (∀ i a, lk = some i → ρD.getD i none = some (.loc a) → ow (ρ.getD i .no) → ¬foot (lockO lk ρ) ρD a) := by
  cases lk with
  | none => exact ⟨I, fun _ f => f, fun i a e => by cases e⟩
  | some i =>
    have core : ∀ (v : U), (ρ.getD i .no = .own v ∨ ρ.getD i .no = .ref v) → Inv Z s (ρ.set i (.bor v)) ρD ∧ (∀ a, foot (ρ.set i (.bor v)) ρD a → foot ρ ρD a) ∧ (∀ j a, some i = some j → ρD.getD j none = some (.loc a) → ow (ρ.getD j .no) → ¬foot (ρ.set i (.bor v)) ρD a) := by
      intro v hv
      have hw : ow (ρ.getD i .no) := by rcases hv with e | e <;> rw [e] <;> trivial
      have sl := I.sl i
      have key : ∃ a o, ρD.getD i none = some (.loc a) ∧ ¬Z a ∧ s a = some o ∧ contO Z s v o := by
        rcases hv with e | e <;> rw [e] at sl <;> exact sl
      obtain ⟨a, o, h1, h2, h3, h4⟩ := key
      have hf : ∀ b, foot (ρ.set i (.bor v)) ρD b → foot ρ ρD b ∧ b ≠ a := fun b ⟨j, oj, ej⟩ => by
        rw [getD_set] at oj
        split at oj
        · exact oj.elim
        · next h =>
          refine ⟨⟨j, oj, ej⟩, ?_⟩
          rintro rfl
          by_cases hij : i = j
          · subst hij
            apply h
            refine ⟨rfl, ?_⟩
            by_cases hl : i < ρ.length
            · exact hl
            · rw [List.getD_eq_getElem?_getD, List.getElem?_eq_none (by omega)] at hw; exact hw.elim
          · exact I.dis i j b hij hw oj h1 ej
      refine ⟨⟨by rw [List.length_set]; exact I.len, fun j => ?_, fun j k b hjk oj ok ej => ?_, I.zd, I.dd⟩, fun b f => (hf b f).1, fun j b e eb _ f => ?_⟩
      · rw [getD_set]
        split
        · next h =>
          rw [← h.1, h1]
          refine ⟨_, rfl, ?_, fun b eb f => ?_⟩
          · cases v <;> cases o <;> simp only [contO] at h4 <;> simp only [rdb] <;> exact ⟨a, _, rfl, h3, by simpa only [contO] using h4⟩
          · cases eb; exact (hf _ f).2 rfl
        · exact (I.sl j).to (fun _ z => z) (fun _ _ => rfl) (fun a e => ⟨rfl, id⟩) fun a _ f => (hf a f).1
      · have o1 : ∀ k, ow ((ρ.set i (.bor v)).getD k .no) → ow (ρ.getD k .no) := fun k o => by
          rw [getD_set] at o
          split at o
          · exact o.elim
          · exact o
        exact I.dis j k b hjk (o1 j oj) (o1 k ok) ej
      · cases e
        rw [h1] at eb; cases eb
        exact (hf _ f).2 rfl
    simp only [lockO]
    split
    · next v e => exact core v (.inl e)
    · next v e => exact core v (.inr e)
    · next h1 h2 =>
      refine ⟨I, fun _ f => f, fun j a e _ o => ?_⟩
      cases e
      exfalso
      cases q : ρ.getD i .no with
      | own v => exact h1 v q
      | ref v => exact h2 v q
      | no => rw [q] at o; exact o
      | val v => rw [q] at o; exact o
      | bor v => rw [q] at o; exact o
/-- what is walked stays -/
theorem unlock_go (I : Inv Z s ρ ρD) {lk : Option Nat} (g : Go Z s (lockO lk ρ) ρD Z' s' ρ1 ρD') (I1 : Inv Z' s' ρ1 ρD') (h : unlockO lk ρ ρ1 = some ρ2) : Inv Z' s' ρ2 ρD' ∧ Go Z s ρ ρD Z' s' ρ2 ρD' := by
  cases lk with
  | none => simp only [unlockO, Option.some.injEq] at h; subst h; exact ⟨I1, g⟩
  | some i =>
    obtain ⟨IL, hsub, hout⟩ := I.lock (some i)
    have core : ∀ (v w : U) (x : Sl), ow (ρ.getD i .no) → (lockO (some i) ρ = ρ.set i (.bor w)) → ρ1.getD i .no = .bor v → ow x → (∀ u, x ≠ .bor u) → (x = .own v ∨ x = .ref v) → (∀ u, ρ.getD i .no = .ref u → ∃ u', x = .ref u') → (∀ u, ρ.getD i .no = .own u → ∃ u', x = .own u') →
        Inv Z' s' (ρ1.set i x) ρD' ∧ Go Z s ρ ρD Z' s' (ρ1.set i x) ρD' := by
      intro v w x hw hl e1 hx hxb hxv hxr hxo
      obtain ⟨e2, ed⟩ := g.bo i v e1
      have sl := I.sl i
      obtain ⟨a, ha, nz, hs⟩ := ow_loc sl hw
      have haD : ρD'.getD i none = some (.loc a) := by rw [ed]; exact ha
      have nfL : ¬foot (lockO (some i) ρ) ρD a := hout i a rfl ha hw
      have nZ' : ¬Z' a := fun z => by
        rcases g.fr.znew a z with z | z | z
        · exact nz z
        · exact hs z
        · exact nfL z
      have nf1 : ¬foot ρ1 ρD' a := fun f => by
        rcases g.fr.fnew a f with f | f
        · exact nfL f
        · exact hs f
      have sl1 := I1.sl i
      rw [e1, haD] at sl1
      obtain ⟨d0, hd0, r0, _⟩ := sl1
      cases hd0
      have hc : ∃ o, s' a = some o ∧ contO Z' s' v o := by
        have slL := IL.sl i
        rw [e2, ha] at slL
        cases v <;> simp only [rdb, reduceCtorEq] at r0
        case tup => obtain ⟨_, h, _⟩ := r0; cases h
        all_goals (obtain ⟨a', o, h, h', r⟩ := r0; cases h; exact ⟨o, h', r⟩)
      obtain ⟨o, hso, hco⟩ := hc
      have ilt : i < ρ1.length := by
        by_cases hl : i < ρ1.length
        · exact hl
        · rw [List.getD_eq_getElem?_getD, List.getElem?_eq_none (by omega)] at e1; cases e1
      have hf : ∀ b, foot (ρ1.set i x) ρD' b → b = a ∨ foot ρ1 ρD' b := fun b ⟨j, oj, ej⟩ => by
        rw [getD_set] at oj
        split at oj
        · next h => rw [← h.1, haD] at ej; cases ej; exact .inl rfl
        · exact .inr ⟨j, oj, ej⟩
      have nobor : ∀ j u, j ≠ i → ρ1.getD j .no = .bor u → ρD'.getD j none ≠ some (.loc a) := fun j u hj e eD => by
        obtain ⟨b1, b2⟩ := g.bo j u e
        rw [b2] at eD
        have slj := I.sl j
        rw [hl, getD_set, if_neg (fun z => hj z.1.symm)] at b1
        rw [b1] at slj
        obtain ⟨d1, h1, _, h3⟩ := slj
        rw [eD] at h1; cases h1
        exact h3 a rfl ⟨i, hw, ha⟩
      refine ⟨⟨by rw [List.length_set]; exact I1.len, fun j => ?_, fun j k b hjk oj ok ej => ?_, I1.zd, I1.dd⟩, ⟨g.fr.dom, fun b e nf => ?_, g.fr.zup, fun b z => ?_, fun b f => ?_⟩, fun j u e => ?_, fun j u e => ?_⟩
      · rw [getD_set]
        split
        · next h =>
          rw [← h.1, haD]
          rcases hxv with rfl | rfl <;> exact ⟨a, o, rfl, nZ', hso, hco⟩
        · next h =>
          have hj : j ≠ i := fun z => h ⟨z.symm, ilt⟩
          have slj := I1.sl j
          cases q : ρ1.getD j .no with
          | no => trivial
          | val u => rw [q] at slj; exact slj
          | own u => rw [q] at slj; exact slj
          | ref u => rw [q] at slj; exact slj
          | bor u =>
            rw [q] at slj
            obtain ⟨d1, h1, h2, h3⟩ := slj
            refine ⟨d1, h1, h2, fun b eb f => ?_⟩
            rcases hf b f with rfl | f
            · exact nobor j u hj q (by rw [h1, eb])
            · exact h3 b eb f
      · rw [getD_set] at oj ok
        by_cases hj : i = j
        · subst hj
          rw [haD] at ej; cases ej
          rw [if_neg (fun z => hjk z.1)] at ok
          intro ek
          exact nf1 ⟨k, ok, ek⟩
        · rw [if_neg (fun z => hj z.1)] at oj
          by_cases hk : i = k
          · subst hk
            rw [haD]
            intro ek
            cases ek
            exact nf1 ⟨j, oj, ej⟩
          · rw [if_neg (fun z => hk z.1)] at ok
            exact I1.dis j k b hjk oj ok ej
      · exact g.fr.pres b e fun f => nf (hsub b f)
      · rcases g.fr.znew b z with z | z | z
        · exact .inl z
        · exact .inr (.inl z)
        · exact .inr (.inr (hsub b z))
      · rcases hf b f with rfl | f
        · exact .inl ⟨i, hw, ha⟩
        · rcases g.fr.fnew b f with f | f
          · exact .inl (hsub b f)
          · exact .inr f
      · rw [getD_set] at e
        split at e
        · exact absurd e (hxb u)
        · next h =>
          obtain ⟨b1, b2⟩ := g.bo j u e
          rw [hl, getD_set] at b1
          split at b1
          · next h' => exact absurd ⟨h'.1, ilt⟩ h
          · exact ⟨b1, b2⟩
      · by_cases hj : i = j
        · subst hj
          rw [getD_set, if_pos ⟨rfl, ilt⟩]
          exact ⟨hxr u e, ed⟩
        · rw [getD_set, if_neg (fun z => hj z.1)]
          exact g.rf j u (by rw [hl, getD_set, if_neg (fun z => hj z.1)]; exact e)
    unfold unlockO at h
    simp only at h
    split at h
    · next u v e0 e1 =>
      cases h
      exact core v u (.own v) (by rw [e0]; trivial) (by simp only [lockO, e0]) e1 trivial (by simp) (.inl rfl) (fun u' h => by rw [e0] at h; cases h) fun _ _ => ⟨v, rfl⟩
    · next u v e0 e1 =>
      cases h
      exact core v u (.ref v) (by rw [e0]; trivial) (by simp only [lockO, e0]) e1 trivial (by simp) (.inr rfl) (fun _ _ => ⟨v, rfl⟩) fun u' h => by rw [e0] at h; cases h
    · next u v e0 e1 =>
      cases h
      have : lockO (some i) ρ = ρ := by simp only [lockO, e0]
      rw [this] at g
      exact ⟨I1, g⟩
    · cases h
end
end PL
end

section
set_option autoImplicit false
set_option linter.all false
set_option maxHeartbeats 4000000
namespace PL
open PySem PySem.W PySem.SeqAt

/-! ## after a call -/
section
variable {Z Z' Z1 Z2 : Nat → Prop} {s s' s1 s2 : S} {ρ ρ' ρ1 ρ2 : Env} {ρD ρD1 ρD2 ρD' : Vs} {v : U} {d : D}
theorem wrs_ow : ∀ {es : List E} {fs : List (Option U)} {ρ ρ' : Env}, wrs es fs ρ = some ρ' → ∀ (j i : Nat) (v : U), es[j]? = some (.own i) → fs[j]? = some (some v) → ow (ρ.getD i .no)
  | [], fs, ρ, ρ', h, j, i, v, e, _ => by simp at e
  | e :: es, [], ρ, ρ', h, j, i, v, _, e2 => by simp at e2
  | e :: es, f :: fs, ρ, ρ', h, j, i, v, e1, e2 => by
    have back : ∀ {k : Nat} {w : U} {ρ3 : Env}, wrO ρ k w = some ρ3 → ow (ρ3.getD i .no) → ow (ρ.getD i .no) := fun {k w ρ3} hw o => by
      obtain ⟨x, h1, _, rfl, _⟩ := wrO_inv hw
      rw [getD_set] at o
      split at o
      · next h => rw [← h.1]; exact h1
      · exact o
    cases j with
    | zero =>
      simp only [List.getElem?_cons_zero, Option.some.injEq] at e1 e2
      subst e1 e2
      simp only [wrs] at h
      obtain ⟨ρ3, h1, _⟩ := Option.bind_eq_some_iff.mp h
      exact (wrO_inv h1).choose_spec.1
    | succ j =>
      simp only [List.getElem?_cons_succ] at e1 e2
      unfold wrs at h
      split at h
      · next hq => cases hq
      · next k w ρ3 es' fs' h1 h2 =>
        obtain ⟨ρ4, h3, h4⟩ := Option.bind_eq_some_iff.mp h
        cases h1; cases h2
        exact back h3 (wrs_ow h4 j i v e1 e2)
      · next h1 h2 h3 =>
        cases h2; cases h3
        exact wrs_ow h j i v e1 e2
      · next h1 _ => cases h1
theorem refI_at : ∀ {cl : List Pc} {es : List E} {i : Nat}, i ∈ refI cl es → ∃ j : Nat, cl[j]? = some Pc.ref ∧ es[j]? = some (E.own i)
  | [], es, i, h => by simp [refI] at h
  | c :: cs, [], i, h => by simp [refI] at h
  | c :: cs, e :: es, i, h => by
    simp only [refI, List.mem_append] at h
    rcases h with h | h
    · by_cases hc : c = .ref
      · rw [if_pos hc] at h
        have : ownI e = some i := by simpa using h
        exact ⟨0, by rw [hc]; rfl, by rw [ownI_some this]; rfl⟩
      · rw [if_neg hc] at h; simp at h
    · obtain ⟨j, h1, h2⟩ := refI_at h
      exact ⟨j + 1, h1, h2⟩
theorem no_ref : ∀ {cl : List Pc} {es : List E} {ds : List D} {fs : List (Option U)} {ρ ρ' : Env}, cl.count .ref = 0 → finOk Z s cl ds fs → wrs es fs ρ = some ρ' → ρ' = ρ
  | [], es, ds, [], ρ, ρ', _, h, e => by cases es <;> simp only [wrs, Option.some.injEq] at e <;> exact e.symm
  | [], es, ds, _ :: _, ρ, ρ', _, h, e => by cases ds <;> simp [finOk] at h
  | c :: cs, es, ds, fs, ρ, ρ', hc, h, e => by
    have hcs : c ≠ .ref ∧ cs.count .ref = 0 := by
      rw [List.count_cons] at hc
      by_cases hq : c = .ref
      · subst hq; simp at hc
      · simp [hq] at hc; exact ⟨hq, by simpa using hc⟩
    match ds, fs, c, hcs, h with
    | d :: ds, none :: fs, .val, hcs, h =>
      simp only [finOk] at h
      cases es with
      | nil => simp [wrs] at e
      | cons x es => exact no_ref hcs.2 h (by cases x <;> simpa only [wrs] using e)
    | d :: ds, none :: fs, .bor, hcs, h =>
      simp only [finOk] at h
      cases es with
      | nil => simp [wrs] at e
      | cons x es => exact no_ref hcs.2 h (by cases x <;> simpa only [wrs] using e)
    | ds, fs, .ref, hcs, h => exact absurd rfl hcs.1
    | [], [], .val, _, h => simp [finOk] at h
    | [], [], .bor, _, h => simp [finOk] at h
    | [], _ :: _, .val, _, h => simp [finOk] at h
    | [], _ :: _, .bor, _, h => simp [finOk] at h
    | _ :: _, [], .val, _, h => simp [finOk] at h
    | _ :: _, [], .bor, _, h => simp [finOk] at h
    | _ :: _, some _ :: _, .val, _, h => simp [finOk] at h
    | _ :: _, some _ :: _, .bor, _, h => simp [finOk] at h
theorem refLoc_none : ∀ {cl : List Pc} {ds : List D} {a : Nat}, cl.count .ref = 0 → ¬refLoc cl ds a := fun {cl ds a} h ⟨j, h1, _⟩ => by
  have := List.count_eq_zero.mp h
  exact this (List.mem_of_getElem? h1)
/-- the one object handed on -/
theorem one_ref {s0 : S} : ∀ {cl : List Pc} {es : List E} {vs : List U} {ds : List D} {fs : List (Option U)}, cl.count .ref ≤ 1 → AR2s s0 Z1 s1 ρD cl es vs ds → argCk cl es = true → (∀ (j : Nat) (v : U), cl[j]? = some Pc.ref → vs[j]? = some v → ownI (es.getD j .non) = none → isC v = true) → finOk Z' s' cl ds fs → wrs es fs ρ1 = some ρ2 →
    (ρ2 = ρ1 ∧ ∀ a, refLoc cl ds a → s0 a = none ∧ (∀ i, ρD.getD i none ≠ some (.loc a)) ∧ ¬Z1 a) ∨
    ∃ i v a o, wrO ρ1 i v = some ρ2 ∧ i ∈ refI cl es ∧ ρD.getD i none = some (.loc a) ∧ (∀ b, refLoc cl ds b → b = a) ∧ ¬Z' a ∧ s' a = some o ∧ contO Z' s' v o
  | [], es, vs, ds, fs, hc, h, ck, hv, hf, e => by
    refine .inl ⟨no_ref (cl := []) rfl hf e, fun a ⟨j, h1, _⟩ => by simp at h1⟩
  | c :: cs, x :: es, v :: vs, d :: ds, fs, hc, h, ck, hv, hf, e => by
    simp only [AR2s] at h
    obtain ⟨h1, h2⟩ := h
    by_cases hr : c = .ref
    · subst hr
      have hc0 : cs.count .ref = 0 := by rw [List.count_cons] at hc; simp at hc; simpa using hc
      have only : ∀ b, refLoc (.ref :: cs) (d :: ds) b → d = .loc b := fun b ⟨j, g1, g2⟩ => by
        cases j with
        | zero => simpa using g2
        | succ j => exact absurd ⟨j, by simpa using g1, by simpa using g2⟩ (refLoc_none (ds := ds) (a := b) hc0)
      match fs, hf with
      | some w :: fs, hf =>
        simp only [finOk] at hf
        obtain ⟨⟨a, o, ed, nz, es', r⟩, hf2⟩ := hf
        simp only [argCk, Bool.and_eq_true] at ck
        cases q : ownI x with
        | some i =>
          obtain rfl := ownI_some q
          simp only [wrs] at e
          obtain ⟨ρ3, e1, e2⟩ := Option.bind_eq_some_iff.mp e
          obtain rfl := no_ref hc0 hf2 e2
          unfold AR2 at h1
          rw [q] at h1
          refine .inr ⟨i, w, a, o, e1, by simp [refI, ownI], by rw [h1, ed], fun b hb => ?_, nz, es', r⟩
          have := only b hb
          rw [ed] at this; cases this; rfl
        | none =>
          have e' : wrs es fs ρ1 = some ρ2 := by cases x <;> simp [ownI] at q <;> simpa only [wrs] using e
          obtain rfl := no_ref hc0 hf2 e'
          have hfr : freshE x = true := by rw [q] at ck; simpa using ck.1
          unfold AR2 at h1
          rw [q] at h1
          simp only at h1
          rw [if_pos ⟨trivial, hfr, hv 0 v rfl rfl q⟩] at h1
          obtain ⟨a', o', ed', h0, hd, nz1, _⟩ := h1
          refine .inl ⟨rfl, fun b hb => ?_⟩
          have := only b hb
          rw [ed'] at this; cases this
          exact ⟨h0, hd, nz1⟩
      | [], hf => simp [finOk] at hf
      | none :: _, hf => simp [finOk] at hf
    · have hc' : cs.count .ref ≤ 1 := by rw [List.count_cons] at hc; omega
      have shift : ∀ {b}, refLoc (c :: cs) (d :: ds) b → refLoc cs ds b := fun {b} ⟨j, g1, g2⟩ => by
        cases j with
        | zero => simp at g1; exact absurd g1 hr
        | succ j => exact ⟨j, by simpa using g1, by simpa using g2⟩
      have tl : ∃ fs', fs = none :: fs' ∧ finOk Z' s' cs ds fs' := by
        match fs, c, hr, hf with
        | none :: fs, .val, _, hf => exact ⟨fs, rfl, hf⟩
        | none :: fs, .bor, _, hf => exact ⟨fs, rfl, hf⟩
        | fs, .ref, hr, _ => exact absurd rfl hr
        | [], .val, _, hf => simp [finOk] at hf
        | [], .bor, _, hf => simp [finOk] at hf
        | some _ :: _, .val, _, hf => simp [finOk] at hf
        | some _ :: _, .bor, _, hf => simp [finOk] at hf
      obtain ⟨fs', rfl, hf'⟩ := tl
      have ck' : argCk cs es = true := by
        cases c
        · simp only [argCk, Bool.and_eq_true] at ck; exact ck.2
        · exact absurd rfl hr
        · simpa only [argCk] using ck
      have e' : wrs es fs' ρ1 = some ρ2 := by cases x <;> simpa only [wrs] using e
      rcases one_ref hc' h2 ck' (fun j v g1 g2 g3 => hv (j + 1) v (by simpa using g1) (by simpa using g2) (by simpa using g3)) hf' e' with ⟨rfl, g⟩ | ⟨i, w, a, o, g1, g2, g3, g4, g5⟩
      · exact .inl ⟨rfl, fun a ha => g a (shift ha)⟩
      · exact .inr ⟨i, w, a, o, g1, by simp only [refI, List.mem_append]; exact .inr g2, g3, fun b hb => g4 b (shift hb), g5⟩
  | c :: cs, [], vs, ds, fs, hc, h, ck, hv, hf, e => by cases c <;> simp [argCk] at ck
  | _ :: _, _ :: _, [], _, _, _, h, _, _, _, _ => by simp [AR2s] at h
  | _ :: _, _ :: _, _ :: _, [], _, _, h, _, _, _, _ => by simp [AR2s] at h
/-- after the call: slots and store -/
theorem call_go {s0 : S} {Z0 : Nat → Prop} {ρ0 : Env} {G : Nat → Prop} (I1 : Inv Z1 s1 ρ1 ρD) (g : Go Z0 s0 ρ0 ρD Z1 s1 ρ1 ρD) (f : Fr Z1 s1 G Z' s' G) (zd : ∀ a, Z' a → s' a ≠ none)
    (h : (ρ2 = ρ1 ∧ ∀ a, G a → s0 a = none ∧ (∀ i, ρD.getD i none ≠ some (.loc a)) ∧ ¬Z1 a) ∨ ∃ i v a o, wrO ρ1 i v = some ρ2 ∧ ρD.getD i none = some (.loc a) ∧ (∀ b, G b → b = a) ∧ ¬Z' a ∧ s' a = some o ∧ contO Z' s' v o) :
    Inv Z' s' ρ2 ρD ∧ Go Z0 s0 ρ0 ρD Z' s' ρ2 ρD := by
  rcases h with ⟨rfl, h⟩ | ⟨i, v, a, o, hw, ha, hG, nz, hs, r⟩
  · refine ⟨I1.keep G f.pres f.dom f.zup f.znew zd (fun a m => (h a m).2.2) fun i a e m => (h a m).2.1 i e, ?_⟩
    refine ⟨?_, g.bo, g.rf⟩
    refine g.fr.weak (G := fun a => foot ρ2 ρD a ∨ G a) ⟨f.dom, fun a e nf => f.pres a e fun m => nf (.inr m), f.zup, fun a z => ?_, fun a f => .inl (.inl f)⟩ fun a m => ?_
    · rcases f.znew a z with z | z | z
      · exact .inl z
      · exact .inr (.inl z)
      · exact .inr (.inr (.inr z))
    · rcases m with m | m
      · exact .inl m
      · exact .inr (h a m).1
  · obtain ⟨x, h1, h2, rfl, h3⟩ := wrO_inv hw
    have fa : foot ρ1 ρD a := ⟨i, h1, ha⟩
    have inv : Inv Z' s' (ρ1.set i x) ρD := by
      refine I1.write (o := o) h1 ha h2 (fun b e nb => f.pres b e fun m => nb (hG b m)) f.dom f.zup (fun b z => ?_) zd nz ?_
      · rcases f.znew b z with z | z | z
        · exact .inl z
        · exact .inr (.inl z)
        · exact .inr (.inr (hG b z))
      · rcases h3 with rfl | rfl <;> exact ⟨a, o, rfl, nz, hs, r⟩
    refine ⟨inv, g.trans (Go.of_set ?_ ?_ ?_)⟩
    · refine ⟨f.dom, fun b e nf => f.pres b e fun m => nf (by rw [hG b m]; exact fa), f.zup, fun b z => ?_, fun b fb => .inl (foot_set h1 b fb)⟩
      rcases f.znew b z with z | z | z
      · exact .inl z
      · exact .inr (.inl z)
      · exact .inr (.inr (by rw [hG b z]; exact fa))
    · intro u; rcases h3 with rfl | rfl <;> simp
    · intro u e
      unfold wrO at hw
      rw [e] at hw
      simp only [Option.some.injEq] at hw
      rcases h3 with rfl | rfl
      · exfalso
        have h4 := congrArg (fun z => z.getD i .no) hw
        simp only [getD_set] at h4
        by_cases hl : i < ρ1.length
        · rw [if_pos ⟨trivial, hl⟩, if_pos ⟨trivial, hl⟩] at h4; cases h4
        · rw [List.getD_eq_getElem?_getD, List.getElem?_eq_none (by omega)] at e; cases e
      · exact ⟨v, rfl⟩
end
end PL
end

section
set_option autoImplicit false
set_option linter.all false
set_option maxHeartbeats 4000000
namespace PL
open PySem PySem.W PySem.SeqAt

/-! ## comprehensions -/
section
variable {Z Z' Z1 Z2 : Nat → Prop} {s s' s1 s2 : S} {ρ ρ' ρ1 ρ2 : Env} {ρD ρD1 ρD2 ρD' : Vs} {v : U} {d : D}
theorem wipeU_len (ρ : Env) : ∀ own : List Nat, (wipeU ρ own).length = ρ.length
  | [] => rfl
  | v :: vs => by simp only [wipeU, List.length_set, wipeU_len ρ vs]
theorem wipeV_len (ρ : Vs) : ∀ own : List Nat, (wipeV ρ own).length = ρ.length
  | [] => rfl
  | v :: vs => by simp only [wipeV, List.length_set, wipeV_len ρ vs]
theorem wipeU_at (ρ : Env) (i : Nat) : ∀ own : List Nat, (wipeU ρ own).getD i .no = if i ∈ own then .no else ρ.getD i .no
  | [] => by simp [wipeU]
  | v :: vs => by
    simp only [wipeU]
    rw [getD_set, wipeU_at ρ i vs, wipeU_len]
    by_cases h : v = i
    · subst h
      by_cases hl : v < ρ.length
      · rw [if_pos ⟨rfl, hl⟩, if_pos (by simp)]
      · rw [if_neg (fun z => hl z.2), if_pos (by simp : v ∈ v :: vs)]
        split
        · rfl
        · rw [List.getD_eq_getElem?_getD, List.getElem?_eq_none (by omega)]; rfl
    · rw [if_neg (fun z => h z.1)]
      by_cases hm : i ∈ vs
      · rw [if_pos hm, if_pos (by simp [hm])]
      · rw [if_neg hm, if_neg (by simp [hm, Ne.symm h])]
theorem wipeV_at (ρ : Vs) (i : Nat) : ∀ own : List Nat, (wipeV ρ own).getD i none = if i ∈ own then none else ρ.getD i none
  | [] => by simp [wipeV]
  | v :: vs => by
    simp only [wipeV]
    rw [getD_set, wipeV_at ρ i vs, wipeV_len]
    by_cases h : v = i
    · subst h
      by_cases hl : v < ρ.length
      · rw [if_pos ⟨rfl, hl⟩, if_pos (by simp)]
      · rw [if_neg (fun z => hl z.2), if_pos (by simp : v ∈ v :: vs)]
        split
        · rfl
        · rw [List.getD_eq_getElem?_getD, List.getElem?_eq_none (by omega)]; rfl
    · rw [if_neg (fun z => h z.1)]
      by_cases hm : i ∈ vs
      · rw [if_pos hm, if_pos (by simp [hm])]
      · rw [if_neg hm, if_neg (by simp [hm, Ne.symm h])]
theorem backU_len (ρ ρ' : Env) : ∀ own : List Nat, (backU ρ own ρ').length = ρ'.length
  | [] => rfl
  | v :: vs => by simp only [backU, List.length_set, backU_len ρ ρ' vs]
theorem backU_at (ρ ρ' : Env) (hl : ρ.length = ρ'.length) (i : Nat) : ∀ own : List Nat, (backU ρ own ρ').getD i .no = if i ∈ own then ρ.getD i .no else ρ'.getD i .no
  | [] => by simp [backU]
  | v :: vs => by
    simp only [backU]
    rw [getD_set, backU_at ρ ρ' hl i vs, backU_len]
    by_cases h : v = i
    · subst h
      by_cases hl' : v < ρ'.length
      · rw [if_pos ⟨rfl, hl'⟩, if_pos (by simp)]
      · rw [if_neg (fun z => hl' z.2), if_pos (by simp : v ∈ v :: vs)]
        split
        · rfl
        · rw [List.getD_eq_getElem?_getD, List.getD_eq_getElem?_getD, List.getElem?_eq_none (by omega), List.getElem?_eq_none (by omega)]
    · rw [if_neg (fun z => h z.1)]
      by_cases hm : i ∈ vs
      · rw [if_pos hm, if_pos (by simp [hm])]
      · rw [if_neg hm, if_neg (by simp [hm, Ne.symm h])]
theorem okOwn_at : ∀ {own : List Nat} {ρ : Env}, okOwn own ρ = true → ∀ i ∈ own, ρ.getD i .no = .no ∨ ∃ v, ρ.getD i .no = .val v
  | [], _, _, i, hi => by simp at hi
  | j :: js, ρ, h, i, hi => by
    simp only [okOwn, Bool.and_eq_true] at h
    rcases List.mem_cons.mp hi with rfl | hi
    · have := h.1
      cases q : ρ.getD i .no <;> rw [q] at this <;> simp at this
      · exact .inl rfl
      · exact .inr ⟨_, rfl⟩
    · exact okOwn_at h.2 i hi
theorem foot_wipe (own : List Nat) (a : Nat) (h : foot (wipeU ρ own) (wipeV ρD own) a) : foot ρ ρD a := by
  obtain ⟨i, o, e⟩ := h
  rw [wipeU_at] at o
  rw [wipeV_at] at e
  split at o
  · exact o.elim
  · next h => rw [if_neg h] at e; exact ⟨i, o, e⟩
theorem Inv.wipe (I : Inv Z s ρ ρD) (own : List Nat) : Inv Z s (wipeU ρ own) (wipeV ρD own) := by
  refine ⟨by rw [wipeU_len, wipeV_len]; exact I.len, fun i => ?_, fun i j a hij oi oj ei => ?_, I.zd, fun i a e => ?_⟩
  · rw [wipeU_at, wipeV_at]
    split
    · trivial
    · exact (I.sl i).to (fun _ z => z) (fun _ _ => rfl) (fun _ _ => ⟨rfl, id⟩) fun a _ f => foot_wipe own a f
  · rw [wipeU_at] at oi oj
    rw [wipeV_at] at ei ⊢
    by_cases h1 : i ∈ own
    · rw [if_pos h1] at oi; exact oi.elim
    · by_cases h2 : j ∈ own
      · rw [if_pos h2] at oj; exact oj.elim
      · rw [if_neg h1] at oi ei
        rw [if_neg h2] at oj ⊢
        exact I.dis i j a hij oi oj ei
  · rw [wipeV_at] at e
    split at e
    · cases e
    · exact I.dd i a e
theorem foot_setV {i : Nat} (ln : ρ.length = ρD.length) (a : Nat) (h : foot (ρ.set i (.val (some v))) (ρD.set i (some d)) a) : foot ρ ρD a := by
  rcases foot_put ln a h with ⟨o, _⟩ | f
  · exact o.elim
  · exact f
/-- binding the names of a comprehension -/
theorem bind_ok {tg : List Nat} {tup : Bool} (I : Inv Z s ρ ρD) (r : rep Z s v d) (h : bindU tg tup v ρ = some ρ1) : ∃ ρD1, bindC tg tup d ρD = some ρD1 ∧ Inv Z s ρ1 ρD1 ∧ (∀ a, foot ρ1 ρD1 a → foot ρ ρD a) ∧ (∀ i, i ∉ tg → ρ1.getD i .no = ρ.getD i .no ∧ ρD1.getD i none = ρD.getD i none) := by
  unfold bindU at h
  unfold bindC
  cases tup
  · rw [if_neg (by simp)] at h ⊢
    split at h
    · next i =>
      cases h
      refine ⟨_, rfl, I.setV r, fun a f => foot_setV I.len a f, fun j hj => ?_⟩
      have : i ≠ j := fun z => hj (by simp [z])
      rw [getD_set, getD_set, if_neg (fun z => this z.1), if_neg (fun z => this z.1)]
      exact ⟨rfl, rfl⟩
    · cases h
  · rw [if_pos rfl] at h ⊢
    split at h
    · next ys =>
      split at h
      · next hl =>
        cases h
        obtain ⟨ds, rfl, rs⟩ := r.rd.tupI
        simp only
        rw [if_pos (by rw [← rs.len]; exact hl)]
        refine ⟨_, rfl, ?_⟩
        have go : ∀ (tg : List Nat) (ys : List U) (ds : List D) (ρ : Env) (ρD : Vs), ys.length = tg.length → reps Z s ys ds → Inv Z s ρ ρD →
            Inv Z s ((tg.zip ys).foldl (fun r p => r.set p.1 (.val (some p.2))) ρ) ((tg.zip ds).foldl (fun r p => r.set p.1 (some p.2)) ρD) ∧ (∀ a, foot ((tg.zip ys).foldl (fun r p => r.set p.1 (.val (some p.2))) ρ) ((tg.zip ds).foldl (fun r p => r.set p.1 (some p.2)) ρD) a → foot ρ ρD a) ∧
            (∀ i, i ∉ tg → ((tg.zip ys).foldl (fun r p => r.set p.1 (Sl.val (some p.2))) ρ).getD i .no = ρ.getD i .no ∧ ((tg.zip ds).foldl (fun r p => r.set p.1 (some p.2)) ρD).getD i none = ρD.getD i none) := by
          intro tg
          induction tg with
          | nil => intro ys ds ρ ρD hl rs I; exact ⟨I, fun a f => f, fun i _ => ⟨rfl, rfl⟩⟩
          | cons t tg ih =>
            intro ys ds ρ ρD hl rs I
            cases ys with
            | nil => simp at hl
            | cons y ys =>
              simp only [reps] at rs
              obtain ⟨d, dr, rfl, r1, r2⟩ := rs
              simp only [List.zip_cons_cons, List.foldl_cons]
              have I1 := I.setV (i := t) r1
              obtain ⟨h1, h2, h3⟩ := ih ys dr _ _ (by simpa using hl) r2 I1
              refine ⟨h1, fun a f => foot_setV I.len a (h2 a f), fun i hi => ?_⟩
              obtain ⟨g1, g2⟩ := h3 i fun z => hi (by simp [z])
              have : t ≠ i := fun z => hi (by simp [z])
              rw [g1, g2, getD_set, getD_set, if_neg (fun z => this z.1), if_neg (fun z => this z.1)]
              exact ⟨rfl, rfl⟩
        exact go tg ys ds ρ ρD hl rs I
      · cases h
    · cases h
/-- back from a turn -/
theorem back_ok {own tg : List Nat} {ρ3 : Env} (I : Inv Z s ρ ρD) (hok : okOwn own ρ = true) (hsub : ∀ i ∈ tg, i ∈ own) (hat : ∀ i, i ∉ tg → ρ1.getD i .no = (wipeU ρ own).getD i .no ∧ ρD1.getD i none = (wipeV ρD own).getD i none) (hf : ∀ a, foot ρ1 ρD1 a → foot ρ ρD a)
    (I3 : Inv Z' s' ρ3 ρD1) (g : Go Z s ρ1 ρD1 Z' s' ρ3 ρD1) (hln : ρD1.length = ρD.length) : Inv Z' s' (backU ρ own ρ3) ρD ∧ Go Z s ρ ρD Z' s' (backU ρ own ρ3) ρD := by
  have ln : ρ.length = ρ3.length := by rw [I.len, I3.len, hln]
  have gb : ∀ i, (backU ρ own ρ3).getD i .no = if i ∈ own then ρ.getD i .no else ρ3.getD i .no := fun i => backU_at ρ ρ3 ln i own
  have gD : ∀ i, i ∉ own → ρD1.getD i none = ρD.getD i none := fun i hi => by
    rw [(hat i fun z => hi (hsub i z)).2, wipeV_at, if_neg hi]
  have g1 : ∀ i, i ∉ own → ρ1.getD i .no = ρ.getD i .no := fun i hi => by
    rw [(hat i fun z => hi (hsub i z)).1, wipeU_at, if_neg hi]
  have no : ∀ i, i ∈ own → ¬ow (ρ.getD i .no) := fun i hi => by
    rcases okOwn_at hok i hi with e | ⟨v, e⟩ <;> rw [e] <;> exact id
  have fb : ∀ a, foot (backU ρ own ρ3) ρD a → foot ρ3 ρD1 a := fun a ⟨i, o, e⟩ => by
    rw [gb] at o
    by_cases hi : i ∈ own
    · rw [if_pos hi] at o; exact absurd o (no i hi)
    · rw [if_neg hi] at o; exact ⟨i, o, by rw [gD i hi]; exact e⟩
  refine ⟨⟨by rw [backU_len, ← ln]; exact I.len, fun i => ?_, fun i j a hij oi oj ei => ?_, I3.zd, fun i a e => g.fr.dom a (I.dd i a e)⟩, ⟨g.fr.dom, fun a e nf => g.fr.pres a e fun f => nf (hf a f), g.fr.zup, fun a z => ?_, fun a f => ?_⟩, fun i u e => ?_, fun i u e => ?_⟩
  · rw [gb]
    by_cases hi : i ∈ own
    · rw [if_pos hi]
      rcases okOwn_at hok i hi with e | ⟨u, e⟩
      · rw [e]; trivial
      · have sl := I.sl i
        rw [e] at sl ⊢
        intro w hw
        obtain ⟨d1, h1, h2⟩ := sl w hw
        exact ⟨d1, h1, h2.to g.fr.zup fun a z => g.fr.pres a (I.zd a z) fun f => (I.fz (hf a f)).1 z⟩
    · rw [if_neg hi, ← gD i hi]
      exact (I3.sl i).to (fun _ z => z) (fun _ _ => rfl) (fun _ _ => ⟨rfl, id⟩) fun a _ f => fb a f
  · rw [gb] at oi oj
    by_cases h1 : i ∈ own
    · rw [if_pos h1] at oi; exact absurd oi (no i h1)
    · by_cases h2 : j ∈ own
      · rw [if_pos h2] at oj; exact absurd oj (no j h2)
      · rw [if_neg h1] at oi
        rw [if_neg h2] at oj
        rw [← gD i h1] at ei
        rw [← gD j h2]
        exact I3.dis i j a hij oi oj ei
  · rcases g.fr.znew a z with z | z | z
    · exact .inl z
    · exact .inr (.inl z)
    · exact .inr (.inr (hf a z))
  · rcases g.fr.fnew a (fb a f) with f | f
    · exact .inl (hf a f)
    · exact .inr f
  · rw [gb] at e
    by_cases hi : i ∈ own
    · rw [if_pos hi] at e
      rcases okOwn_at hok i hi with e' | ⟨w, e'⟩ <;> rw [e'] at e <;> cases e
    · rw [if_neg hi] at e
      obtain ⟨e1, _⟩ := g.bo i u e
      rw [g1 i hi] at e1
      exact ⟨e1, rfl⟩
  · by_cases hi : i ∈ own
    · rcases okOwn_at hok i hi with e' | ⟨w, e'⟩ <;> rw [e'] at e <;> cases e
    · rw [gb, if_neg hi]
      obtain ⟨h1, _⟩ := g.rf i u (by rw [g1 i hi]; exact e)
      exact ⟨h1, rfl⟩
theorem bindC_len {tg : List Nat} {tup : Bool} {ρD ρD1 : Vs} (h : bindC tg tup d ρD = some ρD1) : ρD1.length = ρD.length := by
  unfold bindC at h
  cases tup
  · rw [if_neg (by simp)] at h
    split at h
    · cases h; rw [List.length_set]
    · cases h
  · rw [if_pos rfl] at h
    split at h
    · split at h
      · cases h
        have go : ∀ (ps : List (Nat × D)) (ρ : Vs), (ps.foldl (fun r p => r.set p.1 (some p.2)) ρ).length = ρ.length := by
          intro ps
          induction ps with
          | nil => intro ρ; rfl
          | cons p ps ih => intro ρ; rw [List.foldl_cons, ih, List.length_set]
        exact go _ _
      · cases h
    · cases h
/-- the turns of a comprehension -/
theorem comp_go {chk : S → Prop} {p : Nat} {turn : U → Env → Option (Option U × Env)} {turnD : D → S → (Option D → S → Prop) → Prop} {Q : S → Prop} {s0 : S} {Z0 : Nat → Prop} {ρ0 : Env} {lim0 : Nat} (hl0 : lim0 ≤ lim) (h0 : s0 p = none) (hpD : ∀ i, ρD.getD i none ≠ some (.loc p))
    (hck : ∀ Z' s' ρ', Go Z0 s0 ρ0 ρD Z' s' ρ' ρD → chk s')
    (hmono : ∀ x s k k', (∀ y s, k y s → k' y s) → turnD x s k → turnD x s k')
    (ht : ∀ x y ρ ρ1 Z s dx, turn x ρ = some (y, ρ1) → Inv Z s ρ ρD → Go Z0 s0 ρ0 ρD Z s ρ ρD → rep Z s x dx → turnD dx s fun yd s' => ∃ Z', Inv Z' s' ρ1 ρD ∧ Go Z s ρ ρD Z' s' ρ1 ρD ∧ (match y, yd with
      | some y, some d => rep Z' s' y d
      | none, none => True
      | _, _ => False)) :
    ∀ {xs : List U} {ds : List D} {ys acc : List U} {da : List D} {ρ ρ' : Env} {Z : Nat → Prop} {s : S}, compU turn xs ρ = some (ys, ρ') → Inv Z s ρ ρD → Go Z0 s0 ρ0 ρD Z s ρ ρD → reps Z s xs ds → s p = some (.lst da) → ¬Z p → reps Z s acc da → acc.length + xs.length ≤ lim0 →
      (∀ s' Z' da', Inv Z' s' ρ' ρD → Go Z0 s0 ρ0 ρD Z' s' ρ' ρD → s' p = some (.lst da') → ¬Z' p → reps Z' s' (acc ++ ys) da' → Q s') → compL chk p turnD Q ds da s := by
  intro xs
  induction xs with
  | nil =>
    intro ds ys acc da ρ ρ' Z s e I g rx ep nz ra hl K
    simp only [reps] at rx
    subst rx
    simp only [compU, Option.some.injEq, Prod.mk.injEq] at e
    obtain ⟨rfl, rfl⟩ := e
    simp only [compL]
    exact ⟨hck Z s ρ g, ep, K s Z da I g ep nz (by rw [List.append_nil]; exact ra)⟩
  | cons x xs ih =>
    intro ds ys acc da ρ ρ' Z s e I g rx ep nz ra hl K
    simp only [reps] at rx
    obtain ⟨dx, dr, rfl, rx1, rx2⟩ := rx
    simp only [compU] at e
    obtain ⟨y, ρ1, e1, e⟩ := bd_some.mp e
    obtain ⟨ys', ρ2, e2, e⟩ := bd_some.mp e
    simp only [Option.some.injEq, Prod.mk.injEq] at e
    obtain ⟨rfl, rfl⟩ := e
    simp only [compL]
    refine ⟨hck Z s ρ g, hmono _ _ _ _ (fun yd s1 ⟨Z1, I1, g1, r1⟩ => ?_) (ht x y ρ ρ1 Z s dx e1 I g rx1)⟩
    have nf : ¬foot ρ ρD p := fun ⟨i, _, e⟩ => hpD i e
    have nf1 : ¬foot ρ1 ρD p := fun ⟨i, _, e⟩ => hpD i e
    have ep1 : s1 p = some (.lst da) := by rw [g1.fr.pres p (by rw [ep]; simp) nf]; exact ep
    have nz1 : ¬Z1 p := fun z => by
      rcases g1.fr.znew p z with z | z | z
      · exact nz z
      · rw [ep] at z; cases z
      · exact nf z
    have rx3 : reps Z1 s1 xs dr := g1.fr.reps I rx2
    have ra1 : reps Z1 s1 acc da := g1.fr.reps I ra
    have g2 := g.trans g1
    simp only [List.length_cons] at hl
    match y, yd, r1 with
    | none, none, _ =>
      exact ⟨ep1, s1, S.le_refl _, ih e2 I1 g2 rx3 ep1 nz1 ra1 (by omega) fun s' Z' da' a b c d e => K s' Z' da' a b c d (by simpa using e)⟩
    | some y, some d, r1 =>
      have hz : ∀ a, Z1 a → (s1.up p (.lst (da ++ [d]))) a = s1 a := fun a z => S.up_ne (by rintro rfl; exact nz1 z)
      have I2 : Inv Z1 (s1.up p (.lst (da ++ [d]))) ρ1 ρD := I1.keep (· = p) (fun a e m => S.up_ne m) (fun a e => by
          by_cases h : a = p
          · subst h; rw [S.up_same]; simp
          · rw [S.up_ne h]; exact e) (fun a z => z) (fun a z => .inl z) (fun a z => by rw [hz a z]; exact I1.zd a z) (fun a m => by rw [m]; exact nz1) fun i a e m => hpD i (by rw [e, m])
      have g3 : Go Z0 s0 ρ0 ρD Z1 (s1.up p (.lst (da ++ [d]))) ρ1 ρD := by
        refine ⟨g2.fr.weak (G := fun a => foot ρ1 ρD a ∨ a = p) ⟨fun a e => ?_, fun a e nf => S.up_ne fun m => nf (.inr m), fun a z => z, fun a z => .inl z, fun a f => .inl (.inl f)⟩ fun a m => ?_, g2.bo, g2.rf⟩
        · by_cases h : a = p
          · subst h; rw [S.up_same]; simp
          · rw [S.up_ne h]; exact e
        · rcases m with m | rfl
          · exact .inl m
          · exact .inr h0
      refine ⟨ep1, by have := ra1.len; omega, _, S.le_refl _, ih e2 I2 g3 (rx3.to (fun _ z => z) hz) S.up_same nz1 (reps.to (fun _ z => z) hz (ra1.app (reps.one r1))) (by simp; omega) fun s' Z' da' a b c d e => K s' Z' da' a b c d (by simpa using e)⟩
end
end PL
end

section
set_option autoImplicit false
set_option linter.all false
set_option maxHeartbeats 4000000
namespace PL
open PySem PySem.W PySem.SeqAt

section
variable {Z Z' Z1 Z2 : Nat → Prop} {s s' s1 s2 : S} {ρ ρ' ρ1 ρ2 : Env} {ρD ρD1 ρD2 ρD' : Vs} {v : U} {d : D}
theorem rt_freeze {e : E} (g : Go Z s ρ ρD Z1 s1 ρ1 ρD) (I : Inv Z1 s1 ρ1 ρD) (h : RT s Z1 s1 ρ1 ρD e v d) (ho : ownI e = none) : ∃ Z2, Go Z s ρ ρD Z2 s1 ρ1 ρD ∧ Inv Z2 s1 ρ1 ρD ∧ rep Z2 s1 v d := by
  rcases h.rep ho with t | r
  · obtain ⟨Z2, f2, I2, r2⟩ := tmp_freeze (s1 := s) g.fr I t
    exact ⟨Z2, ⟨f2, g.bo, g.rf⟩, I2, r2⟩
  · exact ⟨Z1, g, I, r⟩
theorem rt_read {e : E} (g : Go Z s ρ ρD Z1 s1 ρ1 ρD) (I : Inv Z1 s1 ρ1 ρD) (h : RT s Z1 s1 ρ1 ρD e v d) : ∃ Z2, Go Z s ρ ρD Z2 s1 ρ1 ρD ∧ Inv Z2 s1 ρ1 ρD ∧ RR Z2 s1 ρ1 ρD e v d := by
  cases q : ownI e with
  | some i =>
    refine ⟨Z1, g, I, ?_⟩
    unfold RT at h; unfold RR
    rw [q] at h ⊢
    exact h
  | none =>
    obtain ⟨Z2, g2, I2, r2⟩ := rt_freeze g I h q
    refine ⟨Z2, g2, I2, ?_⟩
    unfold RR; rw [q]; exact r2
theorem rt_arg {e : E} (c : Pc) (g : Go Z s ρ ρD Z1 s1 ρ1 ρD) (I : Inv Z1 s1 ρ1 ρD) (h : RT s Z1 s1 ρ1 ρD e v d) : ∃ Z2, Go Z s ρ ρD Z2 s1 ρ1 ρD ∧ Inv Z2 s1 ρ1 ρD ∧ AR2 s Z2 s1 ρD c e v d := by
  cases q : ownI e with
  | some i =>
    refine ⟨Z1, g, I, ?_⟩
    unfold RT at h; unfold AR2
    rw [q] at h ⊢
    exact h.1
  | none =>
    by_cases hk : c = .ref ∧ freshE e = true ∧ isC v = true
    · refine ⟨Z1, g, I, ?_⟩
      unfold RT at h; unfold AR2
      rw [q] at h ⊢
      simp only at h ⊢
      rw [if_pos ⟨hk.2.1, hk.2.2⟩] at h
      rw [if_pos hk]
      exact h
    · obtain ⟨Z2, g2, I2, r2⟩ := rt_freeze g I h q
      refine ⟨Z2, g2, I2, ?_⟩
      unfold AR2; rw [q]
      simp only
      rw [if_neg hk]
      exact r2
/-- what is read stays where it is -/
theorem stay {e : E} {lk : Option Nat} (h : RR Z s ρ ρD e v d) (I : Inv Z s ρ ρD) (hl : ownI e = none ∨ lk = ownI e) (g : Go Z s (lockO lk ρ) ρD Z2 s2 ρ2 ρD2) {a : Nat} (ha : d = .loc a) : s2 a = s a := by
  obtain ⟨_, hsub, hout⟩ := I.lock lk
  subst ha
  unfold RR at h
  cases q : ownI e with
  | none =>
    rw [q] at h
    have z := rep_loc h
    exact g.fr.pres a (I.zd a z) fun f => (I.fz (hsub a f)).1 z
  | some i =>
    rw [q] at h
    have hlk : lk = some i := by
      rcases hl with hl | hl
      · rw [q] at hl; cases hl
      · rw [hl, q]
    refine g.fr.pres a (I.dd i a h.1) fun f => ?_
    rcases rdO_bnd h.2 with e | e | e
    · exact hout i a hlk h.1 (by rw [e]; trivial) f
    · exact hout i a hlk h.1 (by rw [e]; trivial) f
    · have sl := I.sl i
      rw [e] at sl
      obtain ⟨d1, h1, _, h3⟩ := sl
      rw [h.1] at h1; cases h1
      exact h3 a rfl (hsub a f)
end
section
variable (Γ : Cls) (C : Cv) (Cd : Cs)
structure EvOk (e : E) : Prop where
  run : ∀ {ρ : Env} {v : U} {ρ' : Env}, cE C e ρ = some (v, ρ') → vokE Γ e = true → ∀ {Z : Nat → Prop} {s : S} {ρD : Vs} {Q : Post}, Inv Z s ρ ρD → (∀ d s' Z', Go Z s ρ ρD Z' s' ρ' ρD → Inv Z' s' ρ' ρD → RT s Z' s' ρ' ρD e v d → Q d s') → wpE Cd e ρD s Q
structure AsOk (es : List E) : Prop where
  run : ∀ {ρ : Env} {vs : List U} {ρ' : Env}, cEs C es ρ = some (vs, ρ') → vokEs Γ es = true → ∀ (cl : List Pc), cl.length = es.length → ∀ {Z : Nat → Prop} {s : S} {ρD : Vs} {Q : List D → S → Prop}, Inv Z s ρ ρD → (∀ ds s' Z', Go Z s ρ ρD Z' s' ρ' ρD → Inv Z' s' ρ' ρD → AR2s s Z' s' ρD cl es vs ds → Q ds s') → wpEs Cd es ρD s Q
structure OOk (e : Option E) : Prop where
  run : ∀ {ρ : Env} {v : Option Int} {ρ' : Env}, cO C e ρ = some (v, ρ') → vokO Γ e = true → ∀ {Z : Nat → Prop} {s : S} {ρD : Vs} {Q : Option Int → S → Prop}, Inv Z s ρ ρD → (∀ s' Z', Go Z s ρ ρD Z' s' ρ' ρD → Inv Z' s' ρ' ρD → Q v s') → wpO Cd e ρD s Q
structure TOk (e : E) : Prop where
  run : ∀ {ρ : Env} {v : Bool} {ρ' : Env}, cT C e ρ = some (v, ρ') → vokT Γ e = true → ∀ {Z : Nat → Prop} {s : S} {ρD : Vs} {Q : Bool → S → Prop}, Inv Z s ρ ρD → (∀ s' Z', Go Z s ρ ρD Z' s' ρ' ρD → Inv Z' s' ρ' ρD → Q v s') → wpT Cd e ρD s Q
structure COk (e : Option E) : Prop where
  run : ∀ {ρ : Env} {v : Bool} {ρ' : Env}, cC C e ρ = some (v, ρ') → vokO' Γ e = true → ∀ {Z : Nat → Prop} {s : S} {ρD : Vs} {Q : Bool → S → Prop}, Inv Z s ρ ρD → (∀ s' Z', Go Z s ρ ρD Z' s' ρ' ρD → Inv Z' s' ρ' ρD → Q v s') → wpC Cd e ρD s Q
structure AndOk (es : List E) : Prop where
  run : ∀ {ρ : Env} {v : U} {ρ' : Env}, cAnd C es ρ = some (v, ρ') → vokEs Γ es = true → (es.all fun e => (ownI e).isNone) = true → ∀ {Z : Nat → Prop} {s : S} {ρD : Vs} {Q : Post}, Inv Z s ρ ρD → (∀ d s' Z', Go Z s ρ ρD Z' s' ρ' ρD → Inv Z' s' ρ' ρD → rep Z' s' v d → Q d s') → wpAnd Cd es ρD s Q
structure OrOk (es : List E) : Prop where
  run : ∀ {ρ : Env} {v : U} {ρ' : Env}, cOr C es ρ = some (v, ρ') → vokEs Γ es = true → (es.all fun e => (ownI e).isNone) = true → ∀ {Z : Nat → Prop} {s : S} {ρD : Vs} {Q : Post}, Inv Z s ρ ρD → (∀ d s' Z', Go Z s ρ ρD Z' s' ρ' ρD → Inv Z' s' ρ' ρD → rep Z' s' v d → Q d s') → wpOr Cd es ρD s Q
structure AndTOk (es : List E) : Prop where
  run : ∀ {ρ : Env} {v : Bool} {ρ' : Env}, cAndT C es ρ = some (v, ρ') → vokTs Γ es = true → ∀ {Z : Nat → Prop} {s : S} {ρD : Vs} {Q : Bool → S → Prop}, Inv Z s ρ ρD → (∀ s' Z', Go Z s ρ ρD Z' s' ρ' ρD → Inv Z' s' ρ' ρD → Q v s') → wpAndT Cd es ρD s Q
structure OrTOk (es : List E) : Prop where
  run : ∀ {ρ : Env} {v : Bool} {ρ' : Env}, cOrT C es ρ = some (v, ρ') → vokTs Γ es = true → ∀ {Z : Nat → Prop} {s : S} {ρD : Vs} {Q : Bool → S → Prop}, Inv Z s ρ ρD → (∀ s' Z', Go Z s ρ ρD Z' s' ρ' ρD → Inv Z' s' ρ' ρD → Q v s') → wpOrT Cd es ρD s Q
structure IOk (e : E) : Prop where
  run : ∀ {ρ : Env} {r : Ic}, cI C e ρ = some r → vokI Γ e = true → ∀ {Z : Nat → Prop} {s : S} {ρD : Vs} {R : ItP}, Inv Z s ρ ρD → (∀ chk ds s' Z', Go Z s ρ ρD Z' s' r.ρ ρD → Inv Z' s' r.ρ ρD → reps Z' s' r.xs ds → (∀ Z2 s2 ρ2 ρD2, Go Z' s' (lockO r.lk r.ρ) ρD Z2 s2 ρ2 ρD2 → chk s2) → R chk ds s') → wpI Cd e ρD s R
end
section
variable {Γ : Cls} {C : Cv} {Cd : Cs}
theorem EvOk.v {e : E} (h : EvOk Γ C Cd e) {ρ : Env} {v : U} {ρ' : Env} (e1 : cE C e ρ = some (v, ρ')) (ok : vokE Γ e = true) (ho : ownI e = none) {Z : Nat → Prop} {s : S} {ρD : Vs} {Q : Post} (I : Inv Z s ρ ρD) (K : ∀ d s' Z', Go Z s ρ ρD Z' s' ρ' ρD → Inv Z' s' ρ' ρD → rep Z' s' v d → Q d s') : wpE Cd e ρD s Q :=
  h.run e1 ok I fun d s' Z' g I' r => by
    obtain ⟨Z2, g2, I2, r2⟩ := rt_freeze g I' r ho
    exact K d s' Z2 g2 I2 r2
theorem EvOk.r {e : E} (h : EvOk Γ C Cd e) {ρ : Env} {v : U} {ρ' : Env} (e1 : cE C e ρ = some (v, ρ')) (ok : vokE Γ e = true) {Z : Nat → Prop} {s : S} {ρD : Vs} {Q : Post} (I : Inv Z s ρ ρD) (K : ∀ d s' Z', Go Z s ρ ρD Z' s' ρ' ρD → Inv Z' s' ρ' ρD → RR Z' s' ρ' ρD e v d → Q d s') : wpE Cd e ρD s Q :=
  h.run e1 ok I fun d s' Z' g I' r => by
    obtain ⟨Z2, g2, I2, r2⟩ := rt_read g I' r
    exact K d s' Z2 g2 I2 r2
theorem cEs_len : ∀ {es : List E} {ρ ρ' : Env} {vs : List U}, cEs C es ρ = some (vs, ρ') → vs.length = es.length
  | [], ρ, ρ', vs, h => by simp only [cEs, Option.some.injEq, Prod.mk.injEq] at h; rw [← h.1]; rfl
  | e :: es, ρ, ρ', vs, h => by
    simp only [cEs] at h
    obtain ⟨x, ρ1, _, h⟩ := bd_some.mp h
    obtain ⟨xs, ρ2, h2, h⟩ := bd_some.mp h
    simp only [Option.some.injEq, Prod.mk.injEq] at h
    rw [← h.1, List.length_cons, cEs_len h2]; rfl
theorem ar_reps {s0 : S} {Z : Nat → Prop} {s : S} {ρD : Vs} : ∀ {cl : List Pc} {es : List E} {vs : List U} {ds : List D}, AR2s s0 Z s ρD cl es vs ds → (es.all fun e => (ownI e).isNone) = true → (∀ c ∈ cl, c = .val) → reps Z s vs ds
  | [], [], [], [], _, _, _ => reps.nil
  | c :: cs, e :: es, v :: vs, d :: ds, h, ho, hc => by
    simp only [AR2s] at h
    rw [List.all_cons, Bool.and_eq_true, Option.isNone_iff_eq_none] at ho
    refine reps.cons ?_ (ar_reps h.2 ho.2 fun c hc' => hc c (by simp [hc']))
    have h1 := h.1
    unfold AR2 at h1
    rw [ho.1] at h1
    simp only at h1
    rw [if_neg (fun z => by rw [hc c (by simp)] at z; cases z.1)] at h1
    exact h1
  | [], _ :: _, _, _, h, _, _ => by simp [AR2s] at h
  | _ :: _, [], _, _, h, _, _ => by simp [AR2s] at h
  | [], [], _ :: _, _, h, _, _ => by simp [AR2s] at h
  | [], [], [], _ :: _, h, _, _ => by simp [AR2s] at h
  | _ :: _, _ :: _, [], _, h, _, _ => by simp [AR2s] at h
  | _ :: _, _ :: _, _ :: _, [], h, _, _ => by simp [AR2s] at h
theorem ar_rdbs {s0 : S} {Z : Nat → Prop} {s : S} {ρ : Env} {ρD : Vs} (I : Inv Z s ρ ρD) : ∀ {cl : List Pc} {es : List E} {vs vs' : List U} {ds : List D}, AR2s s0 Z s ρD cl es vs ds → rdAs es vs ρ = some vs' → (∀ c ∈ cl, c = .bor) → rdbs Z s vs' ds
  | [], [], [], vs', [], _, h, _ => by simp only [rdAs, Option.some.injEq] at h; subst h; simp only [rdbs]
  | c :: cs, e :: es, v :: vs, vs', d :: ds, h, hr, hc => by
    simp only [AR2s] at h
    unfold rdAs at hr
    obtain ⟨v', e1, hr⟩ := Option.bind_eq_some_iff.mp hr
    obtain ⟨r, e2, rfl⟩ := Option.map_eq_some_iff.mp hr
    simp only [rdbs]
    refine ⟨d, ds, rfl, ?_, ar_rdbs I h.2 e2 fun c hc' => hc c (by simp [hc'])⟩
    have h1 := h.1
    unfold AR2 at h1
    cases q : ownI e with
    | none =>
      rw [q] at h1
      simp only at h1
      rw [if_neg (fun z => by rw [hc c (by simp)] at z; cases z.1)] at h1
      have : v' = v := by cases e <;> simp [ownI] at q <;> simp [rdA] at e1 <;> exact e1.symm
      subst this
      exact h1.rd
    | some i =>
      rw [q] at h1
      obtain rfl := ownI_some q
      exact I.rd (by simpa [rdA] using e1) h1
  | [], _ :: _, _, _, _, h, _, _ => by simp [AR2s] at h
  | _ :: _, [], _, _, _, h, _, _ => by simp [AR2s] at h
  | [], [], _ :: _, _, _, h, _, _ => by simp [AR2s] at h
  | [], [], [], _, _ :: _, h, _, _ => by simp [AR2s] at h
  | _ :: _, _ :: _, [], _, _, h, _, _ => by simp [AR2s] at h
  | _ :: _, _ :: _, _ :: _, _, [], h, _, _ => by simp [AR2s] at h
theorem rd_vals : ∀ {es : List E} {vs vs' : List U} {ρ : Env}, (es.all fun e => (ownI e).isNone) = true → rdAs es vs ρ = some vs' → vs' = vs
  | [], [], vs', ρ, _, h => by simp only [rdAs, Option.some.injEq] at h; exact h.symm
  | e :: es, v :: vs, vs', ρ, ho, h => by
    rw [List.all_cons, Bool.and_eq_true, Option.isNone_iff_eq_none] at ho
    unfold rdAs at h
    obtain ⟨v', e1, h⟩ := Option.bind_eq_some_iff.mp h
    obtain ⟨r, e2, rfl⟩ := Option.map_eq_some_iff.mp h
    rw [rd_vals ho.2 e2]
    have hq := ho.1
    cases e <;> simp [ownI] at hq <;> simp [rdA] at e1 <;> rw [e1]
  | [], _ :: _, _, _, _, h => by simp [rdAs] at h
  | _ :: _, [], _, _, _, h => by simp [rdAs] at h
theorem AsOk.v {es : List E} (h : AsOk Γ C Cd es) {ρ : Env} {vs : List U} {ρ' : Env} (e1 : cEs C es ρ = some (vs, ρ')) (ok : vokEs Γ es = true) (ho : (es.all fun e => (ownI e).isNone) = true) {Z : Nat → Prop} {s : S} {ρD : Vs} {Q : List D → S → Prop} (I : Inv Z s ρ ρD) (K : ∀ ds s' Z', Go Z s ρ ρD Z' s' ρ' ρD → Inv Z' s' ρ' ρD → reps Z' s' vs ds → Q ds s') : wpEs Cd es ρD s Q :=
  h.run e1 ok (List.replicate es.length .val) (by simp) I fun ds s' Z' g I' r => K ds s' Z' g I' (ar_reps r ho fun c hc => (List.mem_replicate.mp hc).2)
theorem AsOk.r {es : List E} (h : AsOk Γ C Cd es) {ρ : Env} {vs : List U} {ρ' : Env} (e1 : cEs C es ρ = some (vs, ρ')) (ok : vokEs Γ es = true) {Z : Nat → Prop} {s : S} {ρD : Vs} {Q : List D → S → Prop} (I : Inv Z s ρ ρD) (K : ∀ ds s' Z', Go Z s ρ ρD Z' s' ρ' ρD → Inv Z' s' ρ' ρD → (∀ vs', rdAs es vs ρ' = some vs' → rdbs Z' s' vs' ds) → Q ds s') : wpEs Cd es ρD s Q :=
  h.run e1 ok (List.replicate es.length .bor) (by simp) I fun ds s' Z' g I' r => K ds s' Z' g I' fun vs' hr => ar_rdbs I' r hr fun c hc => (List.mem_replicate.mp hc).2
theorem ref_pos {s0 : S} {Z : Nat → Prop} {s : S} {ρ : Env} {ρD : Vs} : ∀ {cl : List Pc} {es : List E} {vs vs' : List U} {ds : List D}, AR2s s0 Z s ρD cl es vs ds → rdAs es vs ρ = some vs' → argCk cl es = true → refsC cl vs' = true → ∀ (j a : Nat), cl[j]? = some Pc.ref → ds[j]? = some (D.loc a) →
    (∃ i, i ∈ refI cl es ∧ ρD.getD i none = some (.loc a)) ∨ (s0 a = none ∧ (∀ i, ρD.getD i none ≠ some (.loc a)) ∧ ¬Z a)
  | [], _, _, _, _, _, _, _, _, j, a, h, _ => by simp at h
  | c :: cs, e :: es, v :: vs, vs', d :: ds, h, hr, ck, rc, j, a, h1, h2 => by
    simp only [AR2s] at h
    unfold rdAs at hr
    obtain ⟨v', e1, hr⟩ := Option.bind_eq_some_iff.mp hr
    obtain ⟨r, e2, rfl⟩ := Option.map_eq_some_iff.mp hr
    have ck' : argCk cs es = true := by
      cases c
      · simp only [argCk, Bool.and_eq_true] at ck; exact ck.2
      · simp only [argCk, Bool.and_eq_true] at ck; exact ck.2
      · simpa only [argCk] using ck
    have rc' : refsC cs r = true := by
      cases c
      · simpa only [refsC] using rc
      · simp only [refsC, Bool.and_eq_true] at rc; exact rc.2
      · simpa only [refsC] using rc
    cases j with
    | succ j =>
      rcases ref_pos h.2 e2 ck' rc' j a (by simpa using h1) (by simpa using h2) with ⟨i, hi, g⟩ | g
      · exact .inl ⟨i, by simp only [refI, List.mem_append]; exact .inr hi, g⟩
      · exact .inr g
    | zero =>
      simp only [List.getElem?_cons_zero, Option.some.injEq] at h1 h2
      subst h1 h2
      have h0 := h.1
      unfold AR2 at h0
      simp only [argCk, Bool.and_eq_true] at ck
      simp only [refsC, Bool.and_eq_true] at rc
      cases q : ownI e with
      | some i =>
        rw [q] at h0
        exact .inl ⟨i, by simp [refI, q], h0⟩
      | none =>
        rw [q] at h0
        simp only at h0
        have hf : freshE e = true := by rw [q] at ck; simpa using ck.1
        have : v' = v := by cases e <;> simp [ownI] at q <;> simp [rdA] at e1 <;> exact e1.symm
        subst this
        rw [if_pos ⟨trivial, hf, rc.1⟩] at h0
        obtain ⟨a', o, e', g1, g2, g3, _⟩ := h0
        cases e'
        exact .inr ⟨g1, g2, g3⟩
  | _ :: _, [], _, _, _, h, _, _, _, _, _, _, _ => by simp [AR2s] at h
  | _ :: _, _ :: _, [], _, _, h, _, _, _, _, _, _, _ => by simp [AR2s] at h
  | _ :: _, _ :: _, _ :: _, _, [], h, _, _, _, _, _, _, _ => by simp [AR2s] at h
theorem oth_rd : ∀ {cl : List Pc} {es : List E} {vs vs' : List U} {ρ : Env} {i : Nat}, rdAs es vs ρ = some vs' → i ∈ othI cl es → ∃ v, rdO ρ i = some v
  | [], es, _, _, _, _, _, h => by cases es <;> simp [othI] at h
  | _ :: _, [], _, _, _, _, _, h => by simp [othI] at h
  | c :: cs, e :: es, [], _, _, _, h, _ => by simp [rdAs] at h
  | c :: cs, e :: es, v :: vs, vs', ρ, i, h, hi => by
    unfold rdAs at h
    obtain ⟨v', e1, h⟩ := Option.bind_eq_some_iff.mp h
    obtain ⟨r, e2, rfl⟩ := Option.map_eq_some_iff.mp h
    simp only [othI, List.mem_append] at hi
    rcases hi with hi | hi
    · split at hi
      · simp at hi
      · have : ownI e = some i := by simpa using hi
        obtain rfl := ownI_some this
        exact ⟨v', by simpa [rdA] using e1⟩
    · exact oth_rd e2 hi
theorem ref_cont : ∀ {cl : List Pc} {es : List E} {vs vs' : List U} {ρ : Env}, rdAs es vs ρ = some vs' → refsC cl vs' = true → ∀ (j : Nat) (v : U), cl[j]? = some Pc.ref → vs[j]? = some v → ownI (es.getD j .non) = none → isC v = true
  | [], _, _, _, _, _, _, j, v, h, _, _ => by simp at h
  | c :: cs, [], [], _, _, h, _, j, v, _, h2, _ => by simp at h2
  | c :: cs, [], _ :: _, _, _, h, _, j, v, _, h2, _ => by simp [rdAs] at h
  | c :: cs, e :: es, [], _, _, h, _, j, v, _, h2, _ => by simp at h2
  | c :: cs, e :: es, w :: vs, vs', ρ, h, rc, j, v, h1, h2, h3 => by
    unfold rdAs at h
    obtain ⟨v', e1, h⟩ := Option.bind_eq_some_iff.mp h
    obtain ⟨r, e2, rfl⟩ := Option.map_eq_some_iff.mp h
    have rc' : refsC cs r = true := by
      cases c
      · simpa only [refsC] using rc
      · simp only [refsC, Bool.and_eq_true] at rc; exact rc.2
      · simpa only [refsC] using rc
    cases j with
    | succ j => exact ref_cont e2 rc' j v (by simpa using h1) (by simpa using h2) (by simpa using h3)
    | zero =>
      simp at h1 h2 h3
      subst h1 h2
      simp only [refsC, Bool.and_eq_true] at rc
      have : v' = w := by cases e <;> simp [ownI] at h3 <;> simp [rdA] at e1 <;> exact e1.symm
      rw [← this]; exact rc.1
/-! ### the parts -/
theorem e_call' (hC : CallOk Γ C Cd) {f : Nat} {es : List E} (h : AsOk Γ C Cd es) : EvOk Γ C Cd (.call f es) := by
  refine ⟨?_⟩
  intro ρ v ρ' e ok Z s ρD Q I K
  simp only [cE] at e
  obtain ⟨vs, ρ1, e1, e⟩ := bd_some.mp e
  obtain ⟨vs', e2, e⟩ := Option.bind_eq_some_iff.mp e
  obtain ⟨⟨r, fin⟩, e3, e⟩ := Option.bind_eq_some_iff.mp e
  obtain ⟨ρ2, e4, e⟩ := Option.map_eq_some_iff.mp e
  simp only [Prod.mk.injEq] at e
  obtain ⟨rfl, rfl⟩ := e
  simp only at e4
  simp only [vokE, Bool.and_eq_true, callCk, decide_eq_true_eq, List.all_eq_true, Bool.not_eq_true', List.contains_iff_mem] at ok
  obtain ⟨⟨⟨ck, cnt⟩, dj⟩, oks⟩ := ok
  generalize hcl : (Γ[f]?).getD [] = cl at *
  have cklen : ∀ {cl : List Pc} {es : List E}, argCk cl es = true → cl.length = es.length := by
    intro cl
    induction cl with
    | nil => intro es h; cases es <;> simp [argCk] at h ⊢
    | cons c cs ih =>
      intro es h
      cases es with
      | nil => cases c <;> simp [argCk] at h
      | cons e es =>
        have : argCk cs es = true := by
          cases c
          · simp only [argCk, Bool.and_eq_true] at h; exact h.2
          · simp only [argCk, Bool.and_eq_true] at h; exact h.2
          · simpa only [argCk] using h
        simp [ih this]
  simp only [wpE]
  refine h.run e1 oks cl (cklen ck) I fun ds s1 Z1 g1 I1 ar => ?_
  -- the slots handed on
  have rw0 : ∀ i ∈ refI cl es, ow (ρ1.getD i .no) := fun i hi => by
    obtain ⟨j, h1, h2⟩ := refI_at hi
    have hcon : cl.contains .ref = true := List.contains_iff_mem.mpr (List.mem_of_getElem? h1)
    obtain ⟨w, hw⟩ := hC.fins f vs' r fin e3 (by rw [hcl]; exact hcon) j (by rw [hcl]; exact h1)
    exact wrs_ow e4 j i w h2 hw
  have hrc : refsC cl vs' = true := by rw [← hcl]; exact hC.refs f vs' r fin e3
  have pos := ref_pos (s0 := s) ar e2 ck hrc
  have hFz : ∀ a, refLoc cl ds a → ¬Z1 a := fun a ⟨j, h1, h2⟩ => by
    rcases pos j a h1 h2 with ⟨i, hi, hd⟩ | g
    · exact (I1.fz ⟨i, rw0 i hi, hd⟩).1
    · exact g.2.2
  have hoth : ∀ i ∈ othI cl es, ∀ a, ρD.getD i none = some (.loc a) → ¬refLoc cl ds a := fun i hi a hd ⟨j, h1, h2⟩ => by
    rcases pos j a h1 h2 with ⟨k, hk, hd2⟩ | g
    · have hik : i ≠ k := by rintro rfl; have := dj i hk; simp [hi] at this
      obtain ⟨w, hw⟩ := oth_rd e2 hi
      rcases rdO_bnd hw with e | e | e
      · exact I1.dis i k a hik (by rw [e]; trivial) (rw0 k hk) hd hd2
      · exact I1.dis i k a hik (by rw [e]; trivial) (rw0 k hk) hd hd2
      · have sl := I1.sl i
        rw [e] at sl
        obtain ⟨d1, g1, _, g3⟩ := sl
        rw [hd] at g1; cases g1
        exact g3 a rfl ⟨k, rw0 k hk, hd2⟩
    · exact g.2.1 i hd
  have args := args_of (s0 := s) I1 (fun i a e => I.dd i a e) (refLoc cl ds) ar e2 ck hrc hFz hoth rw0
  refine hC.run f vs' r fin e3 Z1 s1 ds Q I1.zd (by rw [hcl]; exact args) (by rw [hcl]; exact cnt) fun d s' Z' fr rr zd hfin => ?_
  rw [hcl] at fr hfin
  have fin2 : (ρ2 = ρ1 ∧ ∀ a, refLoc cl ds a → s a = none ∧ (∀ i, ρD.getD i none ≠ some (.loc a)) ∧ ¬Z1 a) ∨ ∃ i v a o, wrO ρ1 i v = some ρ2 ∧ ρD.getD i none = some (.loc a) ∧ (∀ b, refLoc cl ds b → b = a) ∧ ¬Z' a ∧ s' a = some o ∧ contO Z' s' v o := by
    by_cases hcon : cl.contains .ref = true
    · rw [if_pos hcon] at hfin
      rcases one_ref (s0 := s) cnt ar ck (ref_cont e2 hrc) hfin e4 with g | ⟨i, w, a, o, g1, g2, g3, g4⟩
      · exact .inl g
      · exact .inr ⟨i, w, a, o, g1, g3, g4⟩
    · rw [if_neg hcon] at hfin
      subst hfin
      have : ρ2 = ρ1 := by cases es <;> simp only [wrs, Option.some.injEq] at e4 <;> exact e4.symm
      refine .inl ⟨this, fun a ⟨j, h1, _⟩ => absurd (List.contains_iff_mem.mpr (List.mem_of_getElem? h1)) hcon⟩
  obtain ⟨I2, g2⟩ := call_go I1 g1 fr zd fin2
  exact K d s' Z' g2 I2 (RT.mk rfl rfl rr)
end
end PL
end

section
set_option autoImplicit false
set_option linter.all false
set_option maxHeartbeats 4000000
namespace PL
open PySem PySem.W PySem.SeqAt

section
variable {Γ : Cls} {C : Cv} {Cd : Cs}
theorem e_bin' {op : Op} {a b : E} (ha : EvOk Γ C Cd a) (hb : EvOk Γ C Cd b) : EvOk Γ C Cd (.bin op a b) := by
  refine ⟨?_⟩
  intro ρ v ρ' e ok Z s ρD Q I K
  simp only [cE] at e
  obtain ⟨x, ρ1, e1, e⟩ := bd_some.mp e
  obtain ⟨y, ρ2, e2, e⟩ := bd_some.mp e
  obtain ⟨x', e3, e⟩ := Option.bind_eq_some_iff.mp e
  obtain ⟨w, e4, e⟩ := Option.map_eq_some_iff.mp e
  cases e
  simp only [vokE, Bool.and_eq_true] at ok
  simp only [wpE]
  refine ha.r e1 ok.1 I fun dx s1 Z1 g1 I1 r1 => hb.r e2 ok.2 I1 fun dy s2 Z2 g2 I2 r2 => ?_
  have g := g1.trans g2
  exact p_bin (r1.later g2.fr I1 I2 e3) (r2.now I2) e4 (res_of (s0 := s) (e := .bin op a b) rfl g.fr I2 fun d s' Z' f i r => K d s' Z' ⟨f, g.bo, g.rf⟩ i r)
theorem e_cmp' {op : Cm} {a b : E} (ha : EvOk Γ C Cd a) (hb : EvOk Γ C Cd b) : EvOk Γ C Cd (.cmp op a b) := by
  refine ⟨?_⟩
  intro ρ v ρ' e ok Z s ρD Q I K
  simp only [cE] at e
  obtain ⟨x, ρ1, e1, e⟩ := bd_some.mp e
  obtain ⟨y, ρ2, e2, e⟩ := bd_some.mp e
  obtain ⟨x', e3, e⟩ := Option.bind_eq_some_iff.mp e
  obtain ⟨w, e4, e⟩ := Option.map_eq_some_iff.mp e
  cases e
  simp only [vokE, Bool.and_eq_true] at ok
  simp only [wpE]
  refine ha.r e1 ok.1 I fun dx s1 Z1 g1 I1 r1 => hb.r e2 ok.2 I1 fun dy s2 Z2 g2 I2 r2 => ?_
  exact p_cm (r1.later g2.fr I1 I2 e3) (r2.now I2) e4 (K _ _ Z2 (g1.trans g2) I2 (RT.mk rfl rfl (by simp only [rep])))
theorem t_cmp' {op : Cm} {a b : E} (ha : EvOk Γ C Cd a) (hb : EvOk Γ C Cd b) : TOk Γ C Cd (.cmp op a b) := by
  refine ⟨?_⟩
  intro ρ v ρ' e ok Z s ρD Q I K
  simp only [cT] at e
  obtain ⟨x, ρ1, e1, e⟩ := bd_some.mp e
  obtain ⟨y, ρ2, e2, e⟩ := bd_some.mp e
  obtain ⟨x', e3, e⟩ := Option.bind_eq_some_iff.mp e
  obtain ⟨w, e4, e⟩ := Option.map_eq_some_iff.mp e
  cases e
  simp only [vokT, Bool.and_eq_true] at ok
  simp only [wpT]
  refine ha.r e1 ok.1 I fun dx s1 Z1 g1 I1 r1 => hb.r e2 ok.2 I1 fun dy s2 Z2 g2 I2 r2 => ?_
  exact p_cm (r1.later g2.fr I1 I2 e3) (r2.now I2) e4 (K _ Z2 (g1.trans g2) I2)
theorem e_chain' {o1 o2 : Cm} {a b c : E} (ha : EvOk Γ C Cd a) (hb : EvOk Γ C Cd b) (hc : EvOk Γ C Cd c) : EvOk Γ C Cd (.chain o1 o2 a b c) := by
  refine ⟨?_⟩
  intro ρ v ρ' e ok Z s ρD Q I K
  simp only [cE] at e
  obtain ⟨x, ρ1, e1, e⟩ := bd_some.mp e
  obtain ⟨y, ρ2, e2, e⟩ := bd_some.mp e
  obtain ⟨x', e3, e⟩ := Option.bind_eq_some_iff.mp e
  obtain ⟨t, e4, e⟩ := Option.bind_eq_some_iff.mp e
  simp only [vokE, Bool.and_eq_true] at ok
  simp only [wpE]
  refine ha.r e1 ok.1.1 I fun dx s1 Z1 g1 I1 r1 => hb.r e2 ok.1.2 I1 fun dy s2 Z2 g2 I2 r2 => ?_
  refine p_cm (r1.later g2.fr I1 I2 e3) (r2.now I2) e4 ?_
  cases t
  · rw [if_neg (by simp)] at e
    cases e
    exact K _ _ Z2 (g1.trans g2) I2 (RT.mk rfl rfl (by simp only [rep]))
  · rw [if_pos rfl] at e
    obtain ⟨z, ρ3, e5, e⟩ := bd_some.mp e
    obtain ⟨y', e6, e⟩ := Option.bind_eq_some_iff.mp e
    obtain ⟨w, e7, e⟩ := Option.map_eq_some_iff.mp e
    cases e
    refine hc.r e5 ok.2 I2 fun dz s3 Z3 g3 I3 r3 => ?_
    exact p_cm (r2.later g3.fr I2 I3 e6) (r3.now I3) e7 (K _ _ Z3 ((g1.trans g2).trans g3) I3 (RT.mk rfl rfl (by simp only [rep])))
theorem t_chain' {o1 o2 : Cm} {a b c : E} (ha : EvOk Γ C Cd a) (hb : EvOk Γ C Cd b) (hc : EvOk Γ C Cd c) : TOk Γ C Cd (.chain o1 o2 a b c) := by
  refine ⟨?_⟩
  intro ρ v ρ' e ok Z s ρD Q I K
  simp only [cT] at e
  obtain ⟨x, ρ1, e1, e⟩ := bd_some.mp e
  obtain ⟨y, ρ2, e2, e⟩ := bd_some.mp e
  obtain ⟨x', e3, e⟩ := Option.bind_eq_some_iff.mp e
  obtain ⟨t, e4, e⟩ := Option.bind_eq_some_iff.mp e
  simp only [vokT, Bool.and_eq_true] at ok
  simp only [wpT]
  refine ha.r e1 ok.1.1 I fun dx s1 Z1 g1 I1 r1 => hb.r e2 ok.1.2 I1 fun dy s2 Z2 g2 I2 r2 => ?_
  refine p_cm (r1.later g2.fr I1 I2 e3) (r2.now I2) e4 ?_
  cases t
  · rw [if_neg (by simp)] at e
    cases e
    exact K _ Z2 (g1.trans g2) I2
  · rw [if_pos rfl] at e
    obtain ⟨z, ρ3, e5, e⟩ := bd_some.mp e
    obtain ⟨y', e6, e⟩ := Option.bind_eq_some_iff.mp e
    obtain ⟨w, e7, e⟩ := Option.map_eq_some_iff.mp e
    cases e
    refine hc.r e5 ok.2 I2 fun dz s3 Z3 g3 I3 r3 => ?_
    exact p_cm (r2.later g3.fr I2 I3 e6) (r3.now I3) e7 (K _ Z3 ((g1.trans g2).trans g3) I3)
def isND (n : Bool) : D → Bool
  | .non => !n
  | _ => n
theorem isN_of {n : Bool} {x : U} {d : D} {Z : Nat → Prop} {s : S} (h : rdb Z s x d) : isND n d = isNU n x := by
  cases x
  · rw [h.nonI]; rfl
  · rw [h.blI]; rfl
  · rw [h.intI]; rfl
  · rw [h.strI]; rfl
  · obtain ⟨_, rfl, _⟩ := h.tupI; rfl
  · obtain ⟨_, _, rfl, _⟩ := h.lstI; rfl
  · obtain ⟨_, _, rfl, _⟩ := h.rolI; rfl
  · obtain ⟨_, _, rfl, _⟩ := h.dicI; rfl
theorem ext_inv {x : U} {vs : List U} {r : U × Option U} (h : umt .extend x vs = some r) : ∃ ys, vs = [.lst ys] := by
  unfold umt at h
  split at h
  case h_2 => exact ⟨_, rfl⟩
  all_goals first | contradiction | (next hq => exact absurd hq (by simp))
theorem e_mt' {m : Mt} {o : E} {es : List E} (ho : EvOk Γ C Cd o) (hs : AsOk Γ C Cd es) : EvOk Γ C Cd (.mt m o es) := by
  refine ⟨?_⟩
  intro ρ v ρ' e ok Z s ρD Q I K
  simp only [cE] at e
  obtain ⟨x, ρ1, e1, e⟩ := bd_some.mp e
  split at e
  rotate_left
  · cases e
  next hrv =>
  obtain ⟨vs, ρ2, e2, e⟩ := bd_some.mp e
  obtain ⟨vs', e3, e⟩ := Option.bind_eq_some_iff.mp e
  obtain ⟨x', e4, e⟩ := Option.bind_eq_some_iff.mp e
  obtain ⟨⟨w, on⟩, e5, e⟩ := Option.bind_eq_some_iff.mp e
  simp only [vokE, Bool.and_eq_true, Bool.or_eq_true, decide_eq_true_eq] at ok
  simp only [wpE]
  refine ho.r e1 ok.1.1 I fun dx s1 Z1 g1 I1 r1 => ⟨recv_of (r1.now I1) hrv, ?_⟩
  have fin : ∀ ds s2 Z2, Go Z1 s1 ρ1 ρD Z2 s2 ρ2 ρD → Inv Z2 s2 ρ2 ρD → (reps Z2 s2 vs' ds ∨ (∃ ys l es, m = .extend ∧ vs' = [.lst ys] ∧ ds = [.loc l] ∧ s2 l = some (.lst es) ∧ reps Z2 s2 ys es)) → wpMt m dx ds s2 Q := by
    intro ds s2 Z2 g2 I2 hv
    have g := g1.trans g2
    refine p_mt (r1.later g2.fr I1 I2 e4) hv e5 ?_
    unfold ResM
    cases on with
    | none =>
      simp only at e ⊢
      cases e
      exact fun d r => K d s2 Z2 g I2 (RT.mk rfl rfl r)
    | some n =>
      simp only at e ⊢
      obtain ⟨ρ3, e6, e⟩ := Option.map_eq_some_iff.mp e
      cases e
      intro d a oo hd r hc
      have ho' : ∃ i, o = .own i := by
        cases o <;> simp [wrE] at e6 ⊢
      obtain ⟨i, rfl⟩ := ho'
      simp only [wrE] at e6
      unfold RR at r1
      simp only [ownI] at r1
      have hD : ρD.getD i none = some (.loc a) := by rw [r1.1, hd]
      obtain ⟨I3, f3⟩ := I2.wr e6 hD hc
      have nz : ¬Z2 a := by
        obtain ⟨xx, h1, _, _, _⟩ := wrO_inv e6
        exact (I2.fz ⟨i, h1, hD⟩).1
      refine K d _ Z2 (g.trans ?_) I3 (RT.mk rfl rfl (r.to (fun _ z => z) fun b z => S.up_ne (by rintro rfl; exact nz z)))
      obtain ⟨xx, h1, h2, rfl, h3⟩ := wrO_inv e6
      refine Go.of_set f3 (fun u => by rcases h3 with rfl | rfl <;> simp) fun u eu => ?_
      unfold wrO at e6
      rw [eu] at e6
      simp only [Option.some.injEq] at e6
      rcases h3 with rfl | rfl
      · exfalso
        have h4 := congrArg (fun z => z.getD i .no) e6
        simp only [getD_set] at h4
        by_cases hl : i < ρ2.length
        · rw [if_pos ⟨trivial, hl⟩, if_pos ⟨trivial, hl⟩] at h4; cases h4
        · rw [List.getD_eq_getElem?_getD, List.getElem?_eq_none (by omega)] at eu; cases eu
      · exact ⟨n, rfl⟩
  by_cases hon : (es.all fun e => (ownI e).isNone) = true
  · refine hs.v e2 ok.1.2 hon I1 fun ds s2 Z2 g2 I2 r2 => fin ds s2 Z2 g2 I2 (.inl ?_)
    rw [rd_vals hon e3]; exact r2
  · have hm : m = .extend := ok.2.resolve_right hon
    subst hm
    refine hs.r e2 ok.1.2 I1 fun ds s2 Z2 g2 I2 r2 => fin ds s2 Z2 g2 I2 (.inr ?_)
    have r3 := r2 vs' e3
    obtain ⟨ys, rfl⟩ := ext_inv e5
    obtain ⟨d1, rfl, h1⟩ := r3.one
    obtain ⟨l, es', rfl, h2, h3⟩ := h1.lstI
    exact ⟨ys, l, es', rfl, rfl, rfl, h2, h3⟩
theorem e_comp' (hC : CallOk Γ C Cd) {el it : E} {tg own : List Nat} {tup : Bool} {cond : Option E} (hi : IOk Γ C Cd it) (hc : COk Γ C Cd cond) (he : EvOk Γ C Cd el) : EvOk Γ C Cd (.comp el tg tup it cond own) := by
  refine ⟨?_⟩
  intro ρ v ρ' e ok Z s ρD Q I K
  simp only [cE] at e
  obtain ⟨r, e1, e⟩ := Option.bind_eq_some_iff.mp e
  split at e
  rotate_left
  · cases e
  next hb =>
  obtain ⟨ys, ρ5, e2, e⟩ := bd_some.mp e
  obtain ⟨ρ6, e3, e⟩ := Option.map_eq_some_iff.mp e
  cases e
  simp only [vokE, Bool.and_eq_true, List.all_eq_true, List.contains_iff_mem, Option.isNone_iff_eq_none] at ok
  obtain ⟨⟨⟨⟨ok1, ok2⟩, ok3⟩, ok4⟩, ok5⟩ := ok
  simp only [wpE]
  refine hi.run e1 ok1 I fun chk ds s1 Z1 g1 I1 rx hck p hp => ?_
  obtain ⟨IL, hsub, _⟩ := I1.lock r.lk
  have hpD : ∀ i, ρD.getD i none ≠ some (.loc p) := fun i e => I1.dd i p e hp
  refine comp_go (ρ0 := lockO r.lk r.ρ) (s0 := s1) (Z0 := Z1) (lim0 := lim) (Nat.le_refl _) hp hpD (fun Z' s' ρ' g => hck Z' s' ρ' ρD g) ?_ ?_ (acc := []) e2 (IL.alloc hp) (Go.here (Fr.alloc hp)) (rx.to (fun _ z => z) fun a z => S.up_ne (by rintro rfl; exact I1.zd _ z hp)) S.up_same (fun z => I1.zd p z hp) reps.nil (by simpa using hb) ?_
  · intro x s k k' hk h
    split at h
    · exact h
    · next ρ' hb' =>
      refine wpC_mono hC.mono cond (fun b s3 h3 => ?_) h
      cases b
      · rw [if_neg (by simp)] at h3 ⊢; exact hk _ _ h3
      · rw [if_pos rfl] at h3 ⊢
        exact wpE_mono hC.mono el (fun y s4 h4 => hk _ _ h4) h3
  · intro x y ρa ρb Za sa dx et Ia ga rxx
    obtain ⟨ρw, h1, et⟩ := Option.bind_eq_some_iff.mp et
    obtain ⟨b, ρ3, h2, et⟩ := bd_some.mp et
    unfold bindW at h1
    split at h1
    rotate_left
    · cases h1
    next okA =>
    obtain ⟨ρDw, hbd, Iw, fw, hat⟩ := bind_ok (Ia.wipe own) rxx h1
    simp only [hbd]
    have hlw : ρDw.length = ρD.length := by rw [bindC_len hbd, wipeV_len]
    have fw' : ∀ a, foot ρw ρDw a → foot ρa ρD a := fun a f => foot_wipe own a (fw a f)
    refine hc.run h2 ok2 Iw fun s3 Z3 g3 I3 => ?_
    cases b
    · rw [if_neg (by simp)] at et ⊢
      cases et
      obtain ⟨I4, g4⟩ := back_ok (tg := tg) Ia okA ok5 hat fw' I3 g3 hlw
      exact ⟨Z3, I4, g4, trivial⟩
    · rw [if_pos rfl] at et ⊢
      obtain ⟨y1, ρ4, h3, et⟩ := bd_some.mp et
      cases et
      refine he.v h3 ok3 ok4 I3 fun d s4 Z4 g4 I4 r4 => ?_
      obtain ⟨I5, g5⟩ := back_ok (tg := tg) Ia okA ok5 hat fw' I4 (g3.trans g4) hlw
      exact ⟨Z4, I5, g5, r4⟩
  · intro s' Z' da' I5 g5 ep nz rr
    obtain ⟨I6, g6⟩ := unlock_go I1 g5 I5 e3
    refine K _ s' Z' (g1.trans g6) I6 ?_
    have hs0 : s p = none := by
      cases q : s p with
      | none => rfl
      | some u => exact absurd hp (g1.fr.dom p (by rw [q]; simp))
    unfold RT
    simp only [ownI]
    rw [if_pos ⟨rfl, rfl⟩]
    exact ⟨p, .lst da', rfl, hs0, hpD, nz, ep, by simpa only [contO, List.nil_append] using rr⟩
end
end PL
end

section
set_option autoImplicit false
set_option linter.all false
set_option maxHeartbeats 4000000
namespace PL
open PySem PySem.W PySem.SeqAt

theorem lk_own (a : E) : lkOf a = ownI a := by cases a <;> rfl
theorem items_stay {Z Z2 : Nat → Prop} {s s2 : S} {ρ ρ2 : Env} {ρD ρD2 : Vs} {e : E} {v : U} {d : D} {lk : Option Nat} {ds : List D} (h : RR Z s ρ ρD e v d) (I : Inv Z s ρ ρD) (hl : ownI e = none ∨ lk = ownI e) (g : Go Z s (lockO lk ρ) ρD Z2 s2 ρ2 ρD2) (q : itemsOf s d = some ds) : itemsOf s2 d = some ds := by
  cases d <;> simp only [itemsOf] at q ⊢ <;> try exact q
  unfold seqAt at q ⊢
  rw [stay h I hl g rfl]
  exact q
variable {Γ : Cls} {C : Cv} {Cd : Cs}
mutual
theorem vE (hC : CallOk Γ C Cd) : ∀ e : E, EvOk Γ C Cd e
  | .var i => ⟨by
    intro ρ v ρ' e ok Z s ρD Q I K
    simp only [cE] at e
    obtain ⟨w, e1, e⟩ := Option.map_eq_some_iff.mp e
    cases e
    unfold rdV at e1
    split at e1
    · next w' hq =>
      have sl := I.sl i
      rw [hq] at sl
      obtain ⟨d, h1, h2⟩ := sl _ e1
      simp only [wpE, h1]
      exact K d s Z Go.refl I (RT.mk rfl rfl h2)
    · cases e1
    ⟩
  | .own i => ⟨by
    intro ρ v ρ' e ok Z s ρD Q I K
    simp only [cE] at e
    obtain ⟨w, e1, e⟩ := Option.map_eq_some_iff.mp e
    cases e
    have key : ∃ d, ρD.getD i none = some d := by
      have sl := I.sl i
      rcases rdO_bnd e1 with h | h | h <;> rw [h] at sl
      · obtain ⟨a, _, h1, _⟩ := sl; exact ⟨_, h1⟩
      · obtain ⟨a, _, h1, _⟩ := sl; exact ⟨_, h1⟩
      · obtain ⟨a, h1, _⟩ := sl; exact ⟨_, h1⟩
    obtain ⟨d, h1⟩ := key
    simp only [wpE, h1]
    exact K d s Z Go.refl I (by unfold RT; exact ⟨h1, e1⟩)
    ⟩
  | .mv i => ⟨by
    intro ρ v ρ' e ok Z s ρD Q I K
    simp only [cE] at e
    obtain ⟨a, h1, h2, h3, h4⟩ := I.mv e
    simp only [wpE, h1]
    have hs : (∃ u, ρ.getD i .no = .own u) ∧ ρ' = ρ.set i .no := by
      unfold mvO at e
      split at e
      · next w hq => cases e; exact ⟨⟨_, hq⟩, rfl⟩
      · cases e
    obtain ⟨⟨u, hu⟩, rfl⟩ := hs
    exact K _ s _ (Go.of_set h3 (by simp) fun w hw => by rw [hu] at hw; cases hw) h2 (RT.mk rfl rfl h4)
    ⟩
  | .int i => ⟨by
    intro ρ v ρ' e ok Z s ρD Q I K
    simp only [cE] at e
    cases e
    simp only [wpE]
    exact K _ s Z Go.refl I (RT.mk rfl rfl (by simp only [rep]))
    ⟩
  | .str i => ⟨by
    intro ρ v ρ' e ok Z s ρD Q I K
    simp only [cE] at e
    cases e
    simp only [wpE]
    exact K _ s Z Go.refl I (RT.mk rfl rfl (by simp only [rep]))
    ⟩
  | .bl i => ⟨by
    intro ρ v ρ' e ok Z s ρD Q I K
    simp only [cE] at e
    cases e
    simp only [wpE]
    exact K _ s Z Go.refl I (RT.mk rfl rfl (by simp only [rep]))
    ⟩
  | .non => ⟨by
    intro ρ v ρ' e ok Z s ρD Q I K
    simp only [cE] at e
    cases e
    simp only [wpE]
    exact K _ s Z Go.refl I (RT.mk rfl rfl (by simp only [rep]))
    ⟩
  | .tup es => ⟨by
    intro ρ v ρ' e ok Z s ρD Q I K
    simp only [cE] at e
    obtain ⟨vs, ρ1, e1, e⟩ := bd_some.mp e
    cases e
    simp only [vokE, Bool.and_eq_true] at ok
    simp only [wpE]
    refine (vEs hC es).v e1 ok.2 ok.1 I fun ds s1 Z1 g1 I1 r1 => K _ s1 Z1 g1 I1 (RT.mk rfl rfl ?_)
    simp only [rep]
    exact ⟨ds, rfl, r1⟩
    ⟩
  | .lst es => ⟨by
    intro ρ v ρ' e ok Z s ρD Q I K
    simp only [cE] at e
    obtain ⟨vs, ρ1, e1, e⟩ := bd_some.mp e
    cases e
    simp only [vokE, Bool.and_eq_true] at ok
    simp only [wpE]
    refine (vEs hC es).v e1 ok.2 ok.1 I fun ds s1 Z1 g1 I1 r1 => ?_
    exact (res_of (s0 := s) (e := .lst es) rfl g1.fr I1 fun d s' Z' f i r => K d s' Z' ⟨f, g1.bo, g1.rf⟩ i r : Res Z1 s1 (.lst vs) Q).lst r1
    ⟩
  | .dic ks es => ⟨by
    intro ρ v ρ' e ok Z s ρD Q I K
    simp only [cE] at e
    obtain ⟨vs, ρ1, e1, e⟩ := bd_some.mp e
    cases e
    simp only [vokE, Bool.and_eq_true] at ok
    simp only [wpE]
    intro p hp
    have hpD : ∀ i, ρD.getD i none ≠ some (.loc p) := fun i e => I.dd i p e hp
    refine (vEs hC es).v e1 ok.2 ok.1 (I.alloc hp) fun ds s1 Z1 g1 I1 r1 => ?_
    have nf : ¬foot ρ ρD p := fun ⟨i, _, e⟩ => hpD i e
    have ep : s1 p = some (.dic []) := by rw [g1.fr.pres p (by rw [S.up_same]; simp) nf]; exact S.up_same
    have nz : ¬Z1 p := fun z => by
      rcases g1.fr.znew p z with z | z | z
      · exact I.zd p z hp
      · rw [S.up_same] at z; cases z
      · exact nf z
    refine ⟨ep, ?_⟩
    have hz : ∀ a, Z1 a → (s1.up p (.dic ((ks.map D.str).zip ds))) a = s1 a := fun a z => S.up_ne (by rintro rfl; exact nz z)
    have I2 : Inv Z1 (s1.up p (.dic ((ks.map D.str).zip ds))) ρ' ρD := I1.keep (· = p) (fun a e m => S.up_ne m) (fun a e => by
        by_cases h : a = p
        · subst h; rw [S.up_same]; simp
        · rw [S.up_ne h]; exact e) (fun a z => z) (fun a z => .inl z) (fun a z => by rw [hz a z]; exact I1.zd a z) (fun a m => by rw [m]; exact nz) fun i a e m => hpD i (by rw [e, m])
    have g0 : Go Z s ρ ρD Z1 s1 ρ' ρD := (Go.here (Fr.alloc hp)).trans g1
    refine K _ _ Z1 ⟨g0.fr.weak (G := fun a => foot ρ' ρD a ∨ a = p) ⟨fun a e => ?_, fun a e nf => S.up_ne fun m => nf (.inr m), fun a z => z, fun a z => .inl z, fun a f => .inl (.inl f)⟩ fun a m => ?_, g0.bo, g0.rf⟩ I2 ?_
    · by_cases h : a = p
      · subst h; rw [S.up_same]; simp
      · rw [S.up_ne h]; exact e
    · rcases m with m | rfl
      · exact .inl m
      · exact .inr hp
    · unfold RT
      simp only [ownI]
      rw [if_pos ⟨rfl, rfl⟩]
      refine ⟨p, _, rfl, hp, hpD, nz, S.up_same, ?_⟩
      simp only [contO]
      exact repk.zip (r1.to (fun _ z => z) hz)
    ⟩
  | .bin op a b => e_bin' (vE hC a) (vE hC b)
  | .neg a => ⟨by
    intro ρ v ρ' e ok Z s ρD Q I K
    simp only [cE] at e
    obtain ⟨x, ρ1, e1, e⟩ := bd_some.mp e
    obtain ⟨w, e2, e⟩ := Option.map_eq_some_iff.mp e
    cases e
    simp only [vokE] at ok
    simp only [wpE]
    refine (vE hC a).r e1 ok I fun d s1 Z1 g1 I1 r1 => ?_
    cases x <;> simp only [negU, Option.some.injEq, reduceCtorEq] at e2
    subst e2
    rw [(r1.now I1).intI]
    exact K _ s1 Z1 g1 I1 (RT.mk rfl rfl (by simp only [rep]))
    ⟩
  | .not a => ⟨by
    intro ρ v ρ' e ok Z s ρD Q I K
    simp only [cE] at e
    obtain ⟨x, ρ1, e1, e⟩ := bd_some.mp e
    obtain ⟨w, e2, e⟩ := Option.map_eq_some_iff.mp e
    cases e
    simp only [vokE] at ok
    simp only [wpE]
    refine (vE hC a).r e1 ok I fun d s1 Z1 g1 I1 r1 => ?_
    rw [tru_of (r1.now I1) e2]
    exact K _ s1 Z1 g1 I1 (RT.mk rfl rfl (by simp only [rep]))
    ⟩
  | .and es => ⟨by
    intro ρ v ρ' e ok Z s ρD Q I K
    simp only [cE] at e
    simp only [vokE, Bool.and_eq_true] at ok
    simp only [wpE]
    exact (vAnd hC es).run e ok.2 ok.1 I fun d s1 Z1 g1 I1 r1 => K d s1 Z1 g1 I1 (RT.mk rfl rfl r1)
    ⟩
  | .or es => ⟨by
    intro ρ v ρ' e ok Z s ρD Q I K
    simp only [cE] at e
    simp only [vokE, Bool.and_eq_true] at ok
    simp only [wpE]
    exact (vOr hC es).run e ok.2 ok.1 I fun d s1 Z1 g1 I1 r1 => K d s1 Z1 g1 I1 (RT.mk rfl rfl r1)
    ⟩
  | .ife c a b => ⟨by
    intro ρ v ρ' e ok Z s ρD Q I K
    simp only [cE] at e
    obtain ⟨t, ρ1, e1, e⟩ := bd_some.mp e
    simp only [vokE, Bool.and_eq_true, Option.isNone_iff_eq_none] at ok
    obtain ⟨⟨⟨⟨o1, o2⟩, o3⟩, o4⟩, o5⟩ := ok
    simp only [wpE]
    refine (vT hC c).run e1 o1 I fun s1 Z1 g1 I1 => ?_
    cases t
    · rw [if_neg (by simp)] at e ⊢
      exact (vE hC b).v e o3 o5 I1 fun d s2 Z2 g2 I2 r2 => K d s2 Z2 (g1.trans g2) I2 (RT.mk rfl rfl r2)
    · rw [if_pos rfl] at e ⊢
      exact (vE hC a).v e o2 o4 I1 fun d s2 Z2 g2 I2 r2 => K d s2 Z2 (g1.trans g2) I2 (RT.mk rfl rfl r2)
    ⟩
  | .cmp op a b => e_cmp' (vE hC a) (vE hC b)
  | .chain o1 o2 a b c => e_chain' (vE hC a) (vE hC b) (vE hC c)
  | .isN n a => ⟨by
    intro ρ v ρ' e ok Z s ρD Q I K
    simp only [cE] at e
    obtain ⟨x, ρ1, e1, e⟩ := bd_some.mp e
    cases e
    simp only [vokE] at ok
    simp only [wpE]
    refine (vE hC a).r e1 ok I fun d s1 Z1 g1 I1 r1 => ?_
    have h := isN_of (n := n) (r1.now I1)
    show Q (.bl (isND n d)) s1
    rw [h]
    exact K _ s1 Z1 g1 I1 (RT.mk rfl rfl (by simp only [rep]))
    ⟩
  | .call f es => e_call' hC (vEs hC es)
  | .bi b es => ⟨by
    intro ρ v ρ' e ok Z s ρD Q I K
    simp only [cE] at e
    obtain ⟨vs, ρ1, e1, e⟩ := bd_some.mp e
    obtain ⟨vs', e2, e⟩ := Option.bind_eq_some_iff.mp e
    obtain ⟨w, e3, e⟩ := Option.map_eq_some_iff.mp e
    cases e
    simp only [vokE] at ok
    simp only [wpE]
    refine (vEs hC es).r e1 ok I fun ds s1 Z1 g1 I1 r1 => ?_
    exact p_bi (r1 vs' e2) e3 (res_of (s0 := s) (e := .bi b es) rfl g1.fr I1 fun d s' Z' f i r => K d s' Z' ⟨f, g1.bo, g1.rf⟩ i r)
    ⟩
  | .mt m o es => e_mt' (vE hC o) (vEs hC es)
  | .ix a b => ⟨by
    intro ρ v ρ' e ok Z s ρD Q I K
    simp only [cE] at e
    obtain ⟨x, ρ1, e1, e⟩ := bd_some.mp e
    obtain ⟨y, ρ2, e2, e⟩ := bd_some.mp e
    obtain ⟨x', e3, e⟩ := Option.bind_eq_some_iff.mp e
    obtain ⟨w, e4, e⟩ := Option.map_eq_some_iff.mp e
    cases e
    simp only [vokE, Bool.and_eq_true] at ok
    simp only [wpE]
    refine (vE hC a).r e1 ok.1 I fun dx s1 Z1 g1 I1 r1 => (vE hC b).r e2 ok.2 I1 fun dy s2 Z2 g2 I2 r2 => ?_
    exact p_ix (r1.later g2.fr I1 I2 e3) (r2.now I2) e4 fun d r => K d s2 Z2 (g1.trans g2) I2 (RT.mk rfl rfl r)
    ⟩
  | .sl a lo hi => ⟨by
    intro ρ v ρ' e ok Z s ρD Q I K
    simp only [cE] at e
    obtain ⟨x, ρ1, e1, e⟩ := bd_some.mp e
    obtain ⟨l, ρ2, e2, e⟩ := bd_some.mp e
    obtain ⟨h, ρ3, e3, e⟩ := bd_some.mp e
    obtain ⟨x', e4, e⟩ := Option.bind_eq_some_iff.mp e
    obtain ⟨w, e5, e⟩ := Option.map_eq_some_iff.mp e
    cases e
    simp only [vokE, Bool.and_eq_true] at ok
    simp only [wpE]
    refine (vE hC a).r e1 ok.1.1 I fun dx s1 Z1 g1 I1 r1 => (vO hC lo).run e2 ok.1.2 I1 fun s2 Z2 g2 I2 => (vO hC hi).run e3 ok.2 I2 fun s3 Z3 g3 I3 => ?_
    have g := (g1.trans g2).trans g3
    exact p_sl (r1.later (g2.trans g3).fr I1 I3 e4) e5 (res_of (s0 := s) (e := .sl a lo hi) rfl g.fr I3 fun d s' Z' f i r => K d s' Z' ⟨f, g.bo, g.rf⟩ i r)
    ⟩
  | .comp el tg tup it cond own => e_comp' hC (vI hC it) (vC hC cond) (vE hC el)
  | .val _ => ⟨by intro ρ v ρ' e; simp [cE] at e⟩
  | .rng _ => ⟨by intro ρ v ρ' e; simp [cE] at e⟩
  | .zip _ _ => ⟨by intro ρ v ρ' e; simp [cE] at e⟩
  | .rev _ => ⟨by intro ρ v ρ' e; simp [cE] at e⟩
  | .itm _ => ⟨by intro ρ v ρ' e; simp [cE] at e⟩
  | .vls _ => ⟨by intro ρ v ρ' e; simp [cE] at e⟩
  | .comp2 .. => ⟨by intro ρ v ρ' e; simp [cE] at e⟩
theorem vEs (hC : CallOk Γ C Cd) : ∀ es : List E, AsOk Γ C Cd es
  | [] => ⟨by
    intro ρ vs ρ' e ok cl hcl Z s ρD Q I K
    simp only [cEs] at e
    cases e
    cases cl with
    | cons _ _ => simp at hcl
    | nil =>
      simp only [wpEs]
      exact K [] s Z Go.refl I trivial
    ⟩
  | x :: es => ⟨by
    intro ρ vs ρ' e ok cl hcl Z s ρD Q I K
    simp only [cEs] at e
    obtain ⟨y, ρ1, e1, e⟩ := bd_some.mp e
    obtain ⟨ys, ρ2, e2, e⟩ := bd_some.mp e
    cases e
    simp only [vokEs, Bool.and_eq_true] at ok
    simp only [wpEs]
    cases cl with
    | nil => simp at hcl
    | cons c cs =>
      refine (vE hC x).run e1 ok.1 I fun d s1 Z1 g1 I1 r1 => ?_
      obtain ⟨Z2, g2, I2, r2⟩ := rt_arg c g1 I1 r1
      refine (vEs hC es).run e2 ok.2 cs (by simpa using hcl) I2 fun ds s3 Z3 g3 I3 r3 => K (d :: ds) s3 Z3 (g2.trans g3) I3 ?_
      simp only [AR2s]
      refine ⟨r2.later g3.fr I2, ?_⟩
      have go : ∀ {cl : List Pc} {es : List E} {vs : List U} {ds : List D}, AR2s s1 Z3 s3 ρD cl es vs ds → AR2s s Z3 s3 ρD cl es vs ds := by
        intro cl
        induction cl with
        | nil => intro es vs ds h; cases es <;> cases vs <;> cases ds <;> simp only [AR2s] at h ⊢
        | cons c cs ih =>
          intro es vs ds h
          cases es <;> cases vs <;> cases ds <;> simp only [AR2s] at h ⊢
          refine ⟨?_, ih h.2⟩
          have h1 := h.1
          unfold AR2 at h1 ⊢
          split
          · next q => rw [q] at h1; exact h1
          · next q =>
            rw [q] at h1
            simp only at h1
            split
            · next hk => rw [if_pos hk] at h1; exact tmp_s0 h1 g2.fr.dom
            · next hk => rw [if_neg hk] at h1; exact h1
      exact go r3
    ⟩
theorem vO (hC : CallOk Γ C Cd) : ∀ e : Option E, OOk Γ C Cd e
  | none => ⟨by
    intro ρ v ρ' e ok Z s ρD Q I K
    simp only [cO] at e
    cases e
    simp only [wpO]
    exact K s Z Go.refl I
    ⟩
  | some a => ⟨by
    intro ρ v ρ' e ok Z s ρD Q I K
    simp only [cO] at e
    obtain ⟨x, ρ1, e1, e⟩ := bd_some.mp e
    obtain ⟨w, e2, e⟩ := Option.map_eq_some_iff.mp e
    cases e
    simp only [vokO] at ok
    simp only [wpO]
    refine (vE hC a).r e1 ok I fun d s1 Z1 g1 I1 r1 => ?_
    cases x <;> simp only [uInt, Option.some.injEq, reduceCtorEq] at e2
    subst e2
    rw [(r1.now I1).intI]
    exact K s1 Z1 g1 I1
    ⟩
theorem vC (hC : CallOk Γ C Cd) : ∀ e : Option E, COk Γ C Cd e
  | none => ⟨by
    intro ρ v ρ' e ok Z s ρD Q I K
    simp only [cC] at e
    cases e
    simp only [wpC]
    exact K s Z Go.refl I
    ⟩
  | some a => ⟨by
    intro ρ v ρ' e ok Z s ρD Q I K
    simp only [cC] at e
    simp only [vokO'] at ok
    simp only [wpC]
    exact (vT hC a).run e ok I K
    ⟩
theorem vAnd (hC : CallOk Γ C Cd) : ∀ es : List E, AndOk Γ C Cd es
  | [] => ⟨by intro ρ v ρ' e; simp [cAnd] at e⟩
  | [x] => ⟨by
    intro ρ v ρ' e ok on Z s ρD Q I K
    simp only [cAnd] at e
    simp only [vokEs, Bool.and_eq_true] at ok
    simp only [List.all_cons, List.all_nil, Bool.and_true, Option.isNone_iff_eq_none] at on
    simp only [wpAnd]
    exact (vE hC x).v e ok.1 on I K
    ⟩
  | x :: y :: es => ⟨by
    intro ρ v ρ' e ok on Z s ρD Q I K
    simp only [cAnd] at e
    obtain ⟨u, ρ1, e1, e⟩ := bd_some.mp e
    obtain ⟨b, e2, e3⟩ := Option.bind_eq_some_iff.mp e
    clear e
    rw [vokEs, Bool.and_eq_true] at ok
    rw [List.all_cons, Bool.and_eq_true, Option.isNone_iff_eq_none] at on
    simp only [wpAnd]
    refine (vE hC x).v e1 ok.1 on.1 I fun d s1 Z1 g1 I1 r1 => ?_
    have hu : u = .bl b := by
      cases u <;> simp [uBl] at e2 ⊢
      exact e2
    subst hu
    rw [r1.rd.blI]
    cases b
    · rw [if_neg (by simp)] at e3
      cases e3
      exact K _ s1 Z1 g1 I1 (by simp only [rep])
    · rw [if_pos rfl] at e3
      exact (vAnd hC (y :: es)).run e3 ok.2 on.2 I1 fun d s2 Z2 g2 I2 r2 => K d s2 Z2 (g1.trans g2) I2 r2
    ⟩
theorem vOr (hC : CallOk Γ C Cd) : ∀ es : List E, OrOk Γ C Cd es
  | [] => ⟨by intro ρ v ρ' e; simp [cOr] at e⟩
  | [x] => ⟨by
    intro ρ v ρ' e ok on Z s ρD Q I K
    simp only [cOr] at e
    simp only [vokEs, Bool.and_eq_true] at ok
    simp only [List.all_cons, List.all_nil, Bool.and_true, Option.isNone_iff_eq_none] at on
    simp only [wpOr]
    exact (vE hC x).v e ok.1 on I K
    ⟩
  | x :: y :: es => ⟨by
    intro ρ v ρ' e ok on Z s ρD Q I K
    simp only [cOr] at e
    obtain ⟨u, ρ1, e1, e⟩ := bd_some.mp e
    obtain ⟨b, e2, e3⟩ := Option.bind_eq_some_iff.mp e
    clear e
    rw [vokEs, Bool.and_eq_true] at ok
    rw [List.all_cons, Bool.and_eq_true, Option.isNone_iff_eq_none] at on
    simp only [wpOr]
    refine (vE hC x).v e1 ok.1 on.1 I fun d s1 Z1 g1 I1 r1 => ?_
    have hu : u = .bl b := by
      cases u <;> simp [uBl] at e2 ⊢
      exact e2
    subst hu
    rw [r1.rd.blI]
    cases b
    · rw [if_neg (by simp)] at e3
      exact (vOr hC (y :: es)).run e3 ok.2 on.2 I1 fun d s2 Z2 g2 I2 r2 => K d s2 Z2 (g1.trans g2) I2 r2
    · rw [if_pos rfl] at e3
      cases e3
      exact K _ s1 Z1 g1 I1 (by simp only [rep])
    ⟩
theorem vT (hC : CallOk Γ C Cd) : ∀ e : E, TOk Γ C Cd e
  | .not a => ⟨by
    intro ρ v ρ' e ok Z s ρD Q I K
    simp only [cT] at e
    obtain ⟨b, ρ1, e1, e⟩ := bd_some.mp e
    cases e
    simp only [vokT] at ok
    simp only [wpT]
    exact (vT hC a).run e1 ok I K
    ⟩
  | .and es => ⟨by
    intro ρ v ρ' e ok Z s ρD Q I K
    simp only [cT] at e
    simp only [vokT] at ok
    simp only [wpT]
    exact (vAndT hC es).run e ok I K
    ⟩
  | .or es => ⟨by
    intro ρ v ρ' e ok Z s ρD Q I K
    simp only [cT] at e
    simp only [vokT] at ok
    simp only [wpT]
    exact (vOrT hC es).run e ok I K
    ⟩
  | .ife c a b => ⟨by
    intro ρ v ρ' e ok Z s ρD Q I K
    simp only [cT] at e
    obtain ⟨t, ρ1, e1, e⟩ := bd_some.mp e
    simp only [vokT, Bool.and_eq_true] at ok
    simp only [wpT]
    refine (vT hC c).run e1 ok.1.1 I fun s1 Z1 g1 I1 => ?_
    cases t
    · rw [if_neg (by simp)] at e ⊢
      exact (vT hC b).run e ok.2 I1 fun s2 Z2 g2 I2 => K s2 Z2 (g1.trans g2) I2
    · rw [if_pos rfl] at e ⊢
      exact (vT hC a).run e ok.1.2 I1 fun s2 Z2 g2 I2 => K s2 Z2 (g1.trans g2) I2
    ⟩
  | .isN n a => ⟨by
    intro ρ v ρ' e ok Z s ρD Q I K
    simp only [cT] at e
    obtain ⟨x, ρ1, e1, e⟩ := bd_some.mp e
    cases e
    simp only [vokT] at ok
    simp only [wpT]
    refine (vE hC a).r e1 ok I fun d s1 Z1 g1 I1 r1 => ?_
    have h := isN_of (n := n) (r1.now I1)
    show Q (isND n d) s1
    rw [h]
    exact K s1 Z1 g1 I1
    ⟩
  | .chain o1 o2 a b c => t_chain' (vE hC a) (vE hC b) (vE hC c)
  | .cmp op a b => t_cmp' (vE hC a) (vE hC b)
  | .val a => ⟨by
    intro ρ v ρ' e ok Z s ρD Q I K
    simp only [cT] at e
    obtain ⟨x, ρ1, e1, e⟩ := bd_some.mp e
    obtain ⟨w, e2, e⟩ := Option.map_eq_some_iff.mp e
    cases e
    simp only [vokT] at ok
    simp only [wpT]
    refine (vE hC a).r e1 ok I fun d s1 Z1 g1 I1 r1 => ?_
    rw [tru_of (r1.now I1) e2]
    exact K s1 Z1 g1 I1
    ⟩
  | .var _ => ⟨by intro ρ v ρ' e; simp [cT] at e⟩
  | .own _ => ⟨by intro ρ v ρ' e; simp [cT] at e⟩
  | .mv _ => ⟨by intro ρ v ρ' e; simp [cT] at e⟩
  | .int _ => ⟨by intro ρ v ρ' e; simp [cT] at e⟩
  | .str _ => ⟨by intro ρ v ρ' e; simp [cT] at e⟩
  | .bl _ => ⟨by intro ρ v ρ' e; simp [cT] at e⟩
  | .non => ⟨by intro ρ v ρ' e; simp [cT] at e⟩
  | .tup _ => ⟨by intro ρ v ρ' e; simp [cT] at e⟩
  | .lst _ => ⟨by intro ρ v ρ' e; simp [cT] at e⟩
  | .dic .. => ⟨by intro ρ v ρ' e; simp [cT] at e⟩
  | .bin .. => ⟨by intro ρ v ρ' e; simp [cT] at e⟩
  | .neg _ => ⟨by intro ρ v ρ' e; simp [cT] at e⟩
  | .call .. => ⟨by intro ρ v ρ' e; simp [cT] at e⟩
  | .bi .. => ⟨by intro ρ v ρ' e; simp [cT] at e⟩
  | .mt .. => ⟨by intro ρ v ρ' e; simp [cT] at e⟩
  | .ix .. => ⟨by intro ρ v ρ' e; simp [cT] at e⟩
  | .sl .. => ⟨by intro ρ v ρ' e; simp [cT] at e⟩
  | .comp .. => ⟨by intro ρ v ρ' e; simp [cT] at e⟩
  | .rng _ => ⟨by intro ρ v ρ' e; simp [cT] at e⟩
  | .zip _ _ => ⟨by intro ρ v ρ' e; simp [cT] at e⟩
  | .rev _ => ⟨by intro ρ v ρ' e; simp [cT] at e⟩
  | .itm _ => ⟨by intro ρ v ρ' e; simp [cT] at e⟩
  | .vls _ => ⟨by intro ρ v ρ' e; simp [cT] at e⟩
  | .comp2 .. => ⟨by intro ρ v ρ' e; simp [cT] at e⟩
theorem vAndT (hC : CallOk Γ C Cd) : ∀ es : List E, AndTOk Γ C Cd es
  | [] => ⟨by intro ρ v ρ' e; simp [cAndT] at e⟩
  | [x] => ⟨by
    intro ρ v ρ' e ok Z s ρD Q I K
    simp only [cAndT] at e
    simp only [vokTs, Bool.and_eq_true] at ok
    simp only [wpAndT]
    exact (vT hC x).run e ok.1 I K
    ⟩
  | x :: y :: es => ⟨by
    intro ρ v ρ' e ok Z s ρD Q I K
    simp only [cAndT] at e
    obtain ⟨b, ρ1, e1, e⟩ := bd_some.mp e
    rw [vokTs, Bool.and_eq_true] at ok
    simp only [wpAndT]
    refine (vT hC x).run e1 ok.1 I fun s1 Z1 g1 I1 => ?_
    cases b
    · rw [if_neg (by simp)] at e ⊢
      cases e
      exact K s1 Z1 g1 I1
    · rw [if_pos rfl] at e ⊢
      exact (vAndT hC (y :: es)).run e ok.2 I1 fun s2 Z2 g2 I2 => K s2 Z2 (g1.trans g2) I2
    ⟩
theorem vOrT (hC : CallOk Γ C Cd) : ∀ es : List E, OrTOk Γ C Cd es
  | [] => ⟨by intro ρ v ρ' e; simp [cOrT] at e⟩
  | [x] => ⟨by
    intro ρ v ρ' e ok Z s ρD Q I K
    simp only [cOrT] at e
    simp only [vokTs, Bool.and_eq_true] at ok
    simp only [wpOrT]
    exact (vT hC x).run e ok.1 I K
    ⟩
  | x :: y :: es => ⟨by
    intro ρ v ρ' e ok Z s ρD Q I K
    simp only [cOrT] at e
    obtain ⟨b, ρ1, e1, e⟩ := bd_some.mp e
    rw [vokTs, Bool.and_eq_true] at ok
    simp only [wpOrT]
    refine (vT hC x).run e1 ok.1 I fun s1 Z1 g1 I1 => ?_
    cases b
    · rw [if_neg (by simp)] at e ⊢
      exact (vOrT hC (y :: es)).run e ok.2 I1 fun s2 Z2 g2 I2 => K s2 Z2 (g1.trans g2) I2
    · rw [if_pos rfl] at e ⊢
      cases e
      exact K s1 Z1 g1 I1
    ⟩
theorem vI (hC : CallOk Γ C Cd) : ∀ e : E, IOk Γ C Cd e
  | .rng es => ⟨by
    intro ρ r e ok Z s ρD R I K
    simp only [cI] at e
    obtain ⟨vs, ρ1, e1, e⟩ := bd_some.mp e
    obtain ⟨vs', e2, e⟩ := Option.bind_eq_some_iff.mp e
    obtain ⟨w, e3, e⟩ := Option.map_eq_some_iff.mp e
    cases e
    simp only [vokI] at ok
    simp only [wpI]
    refine (vEs hC es).r e1 ok I fun ds s1 Z1 g1 I1 r1 => ?_
    rw [rng_of (r1 vs' e2) e3]
    exact K _ _ s1 Z1 g1 I1 range_rep fun _ _ _ _ _ => trivial
    ⟩
  | .zip a b => ⟨by
    intro ρ r e ok Z s ρD R I K
    simp only [cI] at e
    obtain ⟨x, ρ1, e1, e⟩ := bd_some.mp e
    obtain ⟨y, ρ2, e2, e⟩ := bd_some.mp e
    obtain ⟨w, e3, e⟩ := Option.map_eq_some_iff.mp e
    cases e
    simp only [vokI, Bool.and_eq_true, Option.isNone_iff_eq_none] at ok
    obtain ⟨⟨⟨o1, o2⟩, o3⟩, o4⟩ := ok
    simp only [wpI]
    refine (vE hC a).r e1 o1 I fun dx s1 Z1 g1 I1 r1 => (vE hC b).r e2 o2 I1 fun dy s2 Z2 g2 I2 r2 => ?_
    have r1' : RR Z2 s2 ρ2 ρD a x dx := by
      unfold RR at r1 ⊢
      rw [o3] at r1 ⊢
      exact g2.fr.rep I1 r1
    unfold zipU at e3
    obtain ⟨xs, h1, e3⟩ := Option.bind_eq_some_iff.mp e3
    obtain ⟨ys, h2, rfl⟩ := Option.map_eq_some_iff.mp e3
    obtain ⟨dxs, q1, rx⟩ := (r1'.now I2).items h1
    obtain ⟨dys, q2, ry⟩ := (r2.now I2).items h2
    simp only [q1, q2]
    refine K _ _ s2 Z2 (g1.trans g2) I2 (rx.zip ry) fun Z3 s3 ρ3 ρD3 g3 => ⟨?_, ?_⟩
    · exact items_stay r1' I2 (.inl o3) g3 q1
    · exact items_stay r2 I2 (.inl o4) g3 q2
    ⟩
  | .rev a => ⟨by
    intro ρ r e ok Z s ρD R I K
    simp only [cI] at e
    obtain ⟨x, ρ1, e1, e⟩ := bd_some.mp e
    obtain ⟨w, e2, e⟩ := Option.map_eq_some_iff.mp e
    cases e
    simp only [vokI] at ok
    simp only [wpI]
    refine (vE hC a).r e1 ok I fun dx s1 Z1 g1 I1 r1 => ?_
    obtain ⟨dxs, q1, rx⟩ := (r1.now I1).items e2
    simp only [q1]
    refine K _ _ s1 Z1 g1 I1 rx.rev fun Z3 s3 ρ3 ρD3 g3 => items_stay r1 I1 (.inr (lk_own a)) g3 q1
    ⟩
  | .itm a => ⟨by
    intro ρ r e ok Z s ρD R I K
    simp only [cI] at e
    obtain ⟨x, ρ1, e1, e⟩ := bd_some.mp e
    obtain ⟨w, e2, e⟩ := Option.map_eq_some_iff.mp e
    cases e
    simp only [vokI] at ok
    simp only [wpI]
    refine (vE hC a).r e1 ok I fun dx s1 Z1 g1 I1 r1 => ?_
    cases x <;> simp only [itmU, Option.some.injEq, reduceCtorEq] at e2
    subst e2
    obtain ⟨l, ks, rfl, e0, rk⟩ := (r1.now I1).dicI
    refine ⟨ks, e0, K _ _ s1 Z1 g1 I1 rk.items fun Z3 s3 ρ3 ρD3 g3 => ?_⟩
    rw [stay r1 I1 (.inr (lk_own a)) g3 rfl]; exact e0
    ⟩
  | .val a => ⟨by
    intro ρ r e ok Z s ρD R I K
    simp only [cI] at e
    obtain ⟨x, ρ1, e1, e⟩ := bd_some.mp e
    obtain ⟨w, e2, e⟩ := Option.map_eq_some_iff.mp e
    cases e
    simp only [vokI] at ok
    simp only [wpI]
    refine (vE hC a).r e1 ok I fun dx s1 Z1 g1 I1 r1 => ?_
    cases x <;> simp only [uiter, Option.some.injEq, reduceCtorEq] at e2 <;> subst e2
    · rw [(r1.now I1).strI]
      exact K _ _ s1 Z1 g1 I1 (reps.map fun c _ => by simp only [rep]) fun _ _ _ _ _ => trivial
    · obtain ⟨ds, rfl, rs⟩ := (r1.now I1).tupI
      exact K _ _ s1 Z1 g1 I1 rs fun _ _ _ _ _ => trivial
    · obtain ⟨l, ds, rfl, e0, rs⟩ := (r1.now I1).lstI
      refine ⟨ds, by unfold seqAt; rw [e0], K _ _ s1 Z1 g1 I1 rs fun Z3 s3 ρ3 ρD3 g3 => ?_⟩
      unfold seqAt
      rw [stay r1 I1 (.inr (lk_own a)) g3 rfl, e0]
    · obtain ⟨l, ds, rfl, e0, rs⟩ := (r1.now I1).rolI
      refine ⟨ds, by unfold seqAt; rw [e0], K _ _ s1 Z1 g1 I1 rs fun Z3 s3 ρ3 ρD3 g3 => ?_⟩
      unfold seqAt
      rw [stay r1 I1 (.inr (lk_own a)) g3 rfl, e0]
    ⟩
  | .var _ => ⟨by intro ρ r e; simp [cI] at e⟩
  | .own _ => ⟨by intro ρ r e; simp [cI] at e⟩
  | .mv _ => ⟨by intro ρ r e; simp [cI] at e⟩
  | .int _ => ⟨by intro ρ r e; simp [cI] at e⟩
  | .str _ => ⟨by intro ρ r e; simp [cI] at e⟩
  | .bl _ => ⟨by intro ρ r e; simp [cI] at e⟩
  | .non => ⟨by intro ρ r e; simp [cI] at e⟩
  | .tup _ => ⟨by intro ρ r e; simp [cI] at e⟩
  | .lst _ => ⟨by intro ρ r e; simp [cI] at e⟩
  | .dic .. => ⟨by intro ρ r e; simp [cI] at e⟩
  | .bin .. => ⟨by intro ρ r e; simp [cI] at e⟩
  | .neg _ => ⟨by intro ρ r e; simp [cI] at e⟩
  | .not _ => ⟨by intro ρ r e; simp [cI] at e⟩
  | .and _ => ⟨by intro ρ r e; simp [cI] at e⟩
  | .or _ => ⟨by intro ρ r e; simp [cI] at e⟩
  | .ife .. => ⟨by intro ρ r e; simp [cI] at e⟩
  | .cmp .. => ⟨by intro ρ r e; simp [cI] at e⟩
  | .chain .. => ⟨by intro ρ r e; simp [cI] at e⟩
  | .isN .. => ⟨by intro ρ r e; simp [cI] at e⟩
  | .call .. => ⟨by intro ρ r e; simp [cI] at e⟩
  | .bi .. => ⟨by intro ρ r e; simp [cI] at e⟩
  | .mt .. => ⟨by intro ρ r e; simp [cI] at e⟩
  | .ix .. => ⟨by intro ρ r e; simp [cI] at e⟩
  | .sl .. => ⟨by intro ρ r e; simp [cI] at e⟩
  | .comp .. => ⟨by intro ρ r e; simp [cI] at e⟩
  | .vls _ => ⟨by intro ρ r e; simp [cI] at e⟩
  | .comp2 .. => ⟨by intro ρ r e; simp [cI] at e⟩
end
end PL
end

section
set_option autoImplicit false
set_option linter.all false
set_option maxHeartbeats 4000000
namespace PL
open PySem PySem.W PySem.SeqAt

/-! ## statements -/
mutual
def vokTg : Tg → Bool
  | .name _ => true
  | .tup ts => vokTgs ts
  | _ => false
def vokTgs : List Tg → Bool
  | [] => true
  | t :: ts => vokTg t && vokTgs ts
end
mutual
def vokS (Γ : Cls) : St → Bool
  | .asg (.sub o i) e => vokE Γ e && (ownI e).isNone && vokE Γ o && vokE Γ i
  | .asg (.own _) e => vokE Γ e && freshE e
  | .asg tg e => vokE Γ e && (ownI e).isNone && vokTg tg
  | .aug _ _ e => vokE Γ e
  | .augS o i _ e => vokE Γ o && vokE Γ i && vokE Γ e
  | .ife c a b => vokT Γ c && vokSs Γ a && vokSs Γ b
  | .for tg it body => vokTg tg && vokI Γ it && vokSs Γ body
  | .while c body => vokT Γ c && vokSs Γ body
  | .ret e => vokE Γ e && (ownI e).isNone
  | .expr e => vokE Γ e
  | _ => true
def vokSs (Γ : Cls) : List St → Bool
  | [] => true
  | s :: ss => vokS Γ s && vokSs Γ ss
end
section
variable {Z Z' Z1 Z2 : Nat → Prop} {s s' s1 s2 : S} {ρ ρ' ρ1 ρ2 : Env} {ρD ρD1 ρD2 ρD' : Vs} {v : U} {d : D} {C : Cs}
mutual
theorem tg_go : ∀ {tg : Tg} {v : U} {d : D} {ρ ρ' : Env} {Z : Nat → Prop} {s : S} {ρD : Vs} {k : Vs → S → Prop}, utg tg v ρ = some ρ' → Inv Z s ρ ρD → rep Z s v d → (∀ ρD', Inv Z s ρ' ρD' → Go Z s ρ ρD Z s ρ' ρD' → k ρD' s) → wpTg C tg d ρD s k
  | .name i, v, d, ρ, ρ', Z, s, ρD, k, h, I, r, K => by
    simp only [utg] at h
    obtain ⟨I', g⟩ := stV_go I h r
    simp only [wpTg]
    exact K _ I' g
  | .tup ts, v, d, ρ, ρ', Z, s, ρD, k, h, I, r, K => by
    simp only [utg] at h
    split at h
    · next vs =>
      split at h
      · next hl =>
        obtain ⟨ds, rfl, rs⟩ := r.rd.tupI
        simp only [wpTg]
        exact ⟨by rw [← rs.len]; exact hl, tgs_go h I rs K⟩
      · cases h
    · cases h
  | .sub _ _, v, d, ρ, ρ', Z, s, ρD, k, h, I, r, K => by simp [utg] at h
  | .own _, v, d, ρ, ρ', Z, s, ρD, k, h, I, r, K => by simp [utg] at h
theorem tgs_go : ∀ {tgs : List Tg} {vs : List U} {ds : List D} {ρ ρ' : Env} {Z : Nat → Prop} {s : S} {ρD : Vs} {k : Vs → S → Prop}, utgs tgs vs ρ = some ρ' → Inv Z s ρ ρD → reps Z s vs ds → (∀ ρD', Inv Z s ρ' ρD' → Go Z s ρ ρD Z s ρ' ρD' → k ρD' s) → wpTgs C tgs ds ρD s k
  | [], [], ds, ρ, ρ', Z, s, ρD, k, h, I, r, K => by
    simp only [utgs, Option.some.injEq] at h
    subst h
    simp only [reps] at r
    subst r
    simp only [wpTgs]
    exact K ρD I Go.refl
  | t :: ts, v :: vs, ds, ρ, ρ', Z, s, ρD, k, h, I, r, K => by
    simp only [utgs] at h
    obtain ⟨ρ1, h1, h2⟩ := Option.bind_eq_some_iff.mp h
    simp only [reps] at r
    obtain ⟨d, dr, rfl, r1, r2⟩ := r
    simp only [wpTgs]
    exact tg_go h1 I r1 fun ρD1 I1 g1 => tgs_go h2 I1 r2 fun ρD2 I2 g2 => K ρD2 I2 (g1.trans g2)
  | [], _ :: _, ds, ρ, ρ', Z, s, ρD, k, h, I, r, K => by simp [utgs] at h
  | _ :: _, [], ds, ρ, ρ', Z, s, ρD, k, h, I, r, K => by simp [utgs] at h
end
/-- what is asked behind a statement -/
def PostS (Z : Nat → Prop) (s : S) (ρ : Env) (ρD : Vs) (R : Rs) (K : Ds) : Prop := match R with
  | .nx ρ' => ∀ s' Z' ρD', Go Z s ρ ρD Z' s' ρ' ρD' → Inv Z' s' ρ' ρD' → K.nx ρD' s'
  | .rt v ρ' => ∀ d s' Z' ρD', Go Z s ρ ρD Z' s' ρ' ρD' → Inv Z' s' ρ' ρD' → rep Z' s' v d → K.rt d s'
  | .bk ρ' => ∀ s' Z' ρD', Go Z s ρ ρD Z' s' ρ' ρD' → Inv Z' s' ρ' ρD' → K.bk ρD' s'
  | .ct ρ' => ∀ s' Z' ρD', Go Z s ρ ρD Z' s' ρ' ρD' → Inv Z' s' ρ' ρD' → K.ct ρD' s'
theorem PostS.after {R : Rs} {K : Ds} (h : PostS Z s ρ ρD R K) (g : Go Z s ρ ρD Z1 s1 ρ1 ρD1) : PostS Z1 s1 ρ1 ρD1 R K := by
  cases R with
  | nx ρ' => exact fun s' Z' ρD' g' I => h s' Z' ρD' (g.trans g') I
  | rt v ρ' => exact fun d s' Z' ρD' g' I r => h d s' Z' ρD' (g.trans g') I r
  | bk ρ' => exact fun s' Z' ρD' g' I => h s' Z' ρD' (g.trans g') I
  | ct ρ' => exact fun s' Z' ρD' g' I => h s' Z' ρD' (g.trans g') I
end
section
variable (Γ : Cls) (C : Cv) (Cd : Cs)
structure SOk (st : St) : Prop where
  run : ∀ {ρ : Env} {R : Rs}, cS C st ρ = some R → vokS Γ st = true → ∀ {Z : Nat → Prop} {s : S} {ρD : Vs} {K : Ds}, Inv Z s ρ ρD → PostS Z s ρ ρD R K → wpS Cd st K ρD s
structure SsOk (st : List St) : Prop where
  run : ∀ {ρ : Env} {R : Rs}, cSs C st ρ = some R → vokSs Γ st = true → ∀ {Z : Nat → Prop} {s : S} {ρD : Vs} {K : Ds}, Inv Z s ρ ρD → PostS Z s ρ ρD R K → wpSs Cd st K ρD s
end
section
variable {Γ : Cls} {C : Cv} {Cd : Cs}
theorem uset_key {x k v n : U} (h : uset x k v = some n) : isC k = false ∧ ∀ xs, k ≠ .rol xs := by
  unfold uset at h
  split at h
  · exact ⟨rfl, by simp⟩
  · split at h
    · next hk => exact key_sc hk.1
    · cases h
  · cases h
/-- a loop over items -/
theorem for_go {chk : S → Prop} {turn : U → Env → Option Rs} {turnD : D → Vs → S → (Vs → S → Prop) → Prop} {K : Ds} {s0 : S} {Z0 : Nat → Prop} {ρ0 : Env} {ρD0 : Vs} (hck : ∀ Z' s' ρ' ρD', Go Z0 s0 ρ0 ρD0 Z' s' ρ' ρD' → chk s')
    (ht : ∀ x R ρ Z s ρD dx k, turn x ρ = some R → Inv Z s ρ ρD → Go Z0 s0 ρ0 ρD0 Z s ρ ρD → rep Z s x dx → PostS Z s ρ ρD R ⟨k, K.rt, K.nx, k⟩ → turnD dx ρD s k) :
    ∀ {xs : List U} {ds : List D} {ρ : Env} {R : Rs} {Z : Nat → Prop} {s : S} {ρD : Vs}, forU turn xs ρ = some R → Inv Z s ρ ρD → Go Z0 s0 ρ0 ρD0 Z s ρ ρD → reps Z s xs ds → PostS Z s ρ ρD R K → forL chk turnD K.nx ds ρD s := by
  intro xs
  induction xs with
  | nil =>
    intro ds ρ R Z s ρD h I g r P
    simp only [reps] at r
    subst r
    simp only [forU, Option.some.injEq] at h
    subst h
    simp only [forL]
    exact ⟨hck Z s ρ ρD g, P s Z ρD Go.refl I⟩
  | cons x xs ih =>
    intro ds ρ R Z s ρD h I g r P
    simp only [reps] at r
    obtain ⟨d, dr, rfl, r1, r2⟩ := r
    simp only [forL]
    refine ⟨hck Z s ρ ρD g, ?_⟩
    simp only [forU] at h
    split at h
    · next ρ' e =>
      exact ht x _ ρ Z s ρD d _ e I g r1 fun s' Z' ρD' g' I' => ⟨s', S.le_refl _, ih h I' (g.trans g') (g'.fr.reps I r2) (P.after g')⟩
    · next ρ' e =>
      exact ht x _ ρ Z s ρD d _ e I g r1 fun s' Z' ρD' g' I' => ⟨s', S.le_refl _, ih h I' (g.trans g') (g'.fr.reps I r2) (P.after g')⟩
    · next ρ' e =>
      cases h
      exact ht x _ ρ Z s ρD d _ e I g r1 fun s' Z' ρD' g' I' => P s' Z' ρD' g' I'
    · next v ρ' e =>
      cases h
      exact ht x _ ρ Z s ρD d _ e I g r1 fun d' s' Z' ρD' g' I' r' => P d' s' Z' ρD' g' I' r'
    · cases h
theorem while_go {test : Env → Option (Bool × Env)} {body : Env → Option Rs} {testD : Vs → S → (Bool → S → Prop) → Prop} {bodyD : Vs → S → (Vs → S → Prop) → Prop} {K : Ds}
    (ht : ∀ b ρ ρ' Z s ρD (k : Bool → S → Prop), test ρ = some (b, ρ') → Inv Z s ρ ρD → (∀ s' Z', Go Z s ρ ρD Z' s' ρ' ρD → Inv Z' s' ρ' ρD → k b s') → testD ρD s k)
    (hb : ∀ R ρ Z s ρD k, body ρ = some R → Inv Z s ρ ρD → PostS Z s ρ ρD R ⟨k, K.rt, K.nx, k⟩ → bodyD ρD s k) :
    ∀ {n : Nat} {ρ : Env} {R : Rs} {Z : Nat → Prop} {s : S} {ρD : Vs}, whileU test body n ρ = some R → Inv Z s ρ ρD → PostS Z s ρ ρD R K → whileL testD bodyD K.nx n ρD s := by
  intro n
  induction n with
  | zero => intro ρ R Z s ρD h; simp [whileU] at h
  | succ n ih =>
    intro ρ R Z s ρD h I P
    simp only [whileU] at h
    obtain ⟨b, ρ1, e1, h⟩ := bd_some.mp h
    simp only [whileL]
    refine ht b ρ ρ1 Z s ρD _ e1 I fun s1 Z1 g1 I1 => ?_
    have P1 := P.after g1
    cases b
    · rw [if_neg (by simp)] at h ⊢
      cases h
      exact P1 s1 Z1 ρD Go.refl I1
    · rw [if_pos rfl] at h ⊢
      split at h
      · next ρ' e => exact hb _ ρ1 Z1 s1 ρD _ e I1 fun s' Z' ρD' g' I' => ⟨s', S.le_refl _, ih h I' (P1.after g')⟩
      · next ρ' e => exact hb _ ρ1 Z1 s1 ρD _ e I1 fun s' Z' ρD' g' I' => ⟨s', S.le_refl _, ih h I' (P1.after g')⟩
      · next ρ' e => cases h; exact hb _ ρ1 Z1 s1 ρD _ e I1 fun s' Z' ρD' g' I' => P1 s' Z' ρD' g' I'
      · next v ρ' e => cases h; exact hb _ ρ1 Z1 s1 ρD _ e I1 fun d' s' Z' ρD' g' I' r' => P1 d' s' Z' ρD' g' I' r'
      · cases h
theorem wr_go {Z0 Z : Nat → Prop} {s0 s : S} {ρ0 ρ ρ' : Env} {ρD : Vs} {o : E} {x n : U} {d : D} {a : Nat} {u : O} (g : Go Z0 s0 ρ0 ρD Z s ρ ρD) (I : Inv Z s ρ ρD) (r : ρD.getD ((ownI o).getD 0) none = some d) (e : wrE o n ρ = some ρ') (hd : d = .loc a) (hc : contO Z s n u) : Inv Z (s.up a u) ρ' ρD ∧ Go Z0 s0 ρ0 ρD Z (s.up a u) ρ' ρD := by
  have ho' : ∃ i, o = .own i := by cases o <;> simp [wrE] at e ⊢
  obtain ⟨i, rfl⟩ := ho'
  simp only [wrE] at e
  simp only [ownI, Option.getD_some] at r
  have hD : ρD.getD i none = some (.loc a) := by rw [r, hd]
  obtain ⟨I3, f3⟩ := I.wr e hD hc
  refine ⟨I3, g.trans ?_⟩
  obtain ⟨xx, h1, h2, rfl, h3⟩ := wrO_inv e
  refine Go.of_set f3 (fun u => by rcases h3 with rfl | rfl <;> simp) fun u eu => ?_
  unfold wrO at e
  rw [eu] at e
  simp only [Option.some.injEq] at e
  rcases h3 with rfl | rfl
  · exfalso
    have h4 := congrArg (fun z => z.getD i .no) e
    simp only [getD_set] at h4
    by_cases hl : i < ρ.length
    · rw [if_pos ⟨trivial, hl⟩, if_pos ⟨trivial, hl⟩] at h4; cases h4
    · rw [List.getD_eq_getElem?_getD, List.getElem?_eq_none (by omega)] at eu; cases eu
  · exact ⟨n, rfl⟩
theorem rr_slot {Z : Nat → Prop} {s : S} {ρ ρ3 ρ' : Env} {ρD : Vs} {o : E} {x n : U} {d : D} (h : RR Z s ρ ρD o x d) (e : wrE o n ρ3 = some ρ') : ρD.getD ((ownI o).getD 0) none = some d := by
  have ho' : ∃ i, o = .own i := by cases o <;> simp [wrE] at e ⊢
  obtain ⟨i, rfl⟩ := ho'
  unfold RR at h
  simp only [ownI] at h ⊢
  exact h.1
mutual
theorem vS (hC : CallOk Γ C Cd) : ∀ st : St, SOk Γ C Cd st
  | .asg (.sub o i) e => ⟨by
    intro ρ R h ok Z s ρD K I P
    simp only [cS] at h
    obtain ⟨d, ρ1, e1, h⟩ := bd_some.mp h
    obtain ⟨x, ρ2, e2, h⟩ := bd_some.mp h
    obtain ⟨k, ρ3, e3, h⟩ := bd_some.mp h
    obtain ⟨x', e4, h⟩ := Option.bind_eq_some_iff.mp h
    obtain ⟨n, e5, h⟩ := Option.bind_eq_some_iff.mp h
    obtain ⟨ρ4, e6, h⟩ := Option.map_eq_some_iff.mp h
    cases h
    simp only [vokS, Bool.and_eq_true, Option.isNone_iff_eq_none] at ok
    obtain ⟨⟨⟨o1, o2⟩, o3⟩, o4⟩ := ok
    simp only [wpS]
    refine (vE hC e).v e1 o1 o2 I fun dd s1 Z1 g1 I1 r1 => ?_
    simp only [wpTg]
    refine (vE hC o).r e2 o3 I1 fun dx s2 Z2 g2 I2 r2 => (vE hC i).r e3 o4 I2 fun dk s3 Z3 g3 I3 r3 => ?_
    have g23 := g2.trans g3
    refine p_set (r2.later g3.fr I2 I3 e4) (r3.now I3) (g23.fr.rep I1 r1) e5 fun l oo hd hc => ?_
    obtain ⟨I4, g4⟩ := wr_go (x := x) (g1.trans g23) I3 (rr_slot r2 e6) e6 hd hc
    exact P _ Z3 ρD g4 I4⟩
  | .asg (.own i) e => ⟨by
    intro ρ R h ok Z s ρD K I P
    simp only [cS] at h
    obtain ⟨d, ρ1, e1, h⟩ := bd_some.mp h
    obtain ⟨ρ4, e6, h⟩ := Option.map_eq_some_iff.mp h
    cases h
    simp only [vokS, Bool.and_eq_true] at ok
    simp only [wpS]
    refine (vE hC e).run e1 ok.1 I fun dd s1 Z1 g1 I1 r1 => ?_
    simp only [wpTg]
    have hc : isC d = true := by
      unfold stO at e6
      split at e6
      · split at e6
        · assumption
        · cases e6
      · split at e6
        · assumption
        · cases e6
      · split at e6
        · assumption
        · cases e6
      · cases e6
    unfold RT at r1
    rw [ownI_fresh ok.2] at r1
    simp only at r1
    rw [if_pos ⟨ok.2, hc⟩] at r1
    obtain ⟨I4, _, f4, b4, r4⟩ := stO_go I1 e6 r1
    refine P s1 Z1 _ ⟨⟨g1.fr.dom, g1.fr.pres, g1.fr.zup, g1.fr.znew, fun a f => ?_⟩, fun j w e => ?_, fun j w e => ?_⟩ I4
    · rcases f4 a f with f | f
      · exact g1.fr.fnew a f
      · exact .inr f
    · obtain ⟨h1, h2⟩ := b4 j w e
      obtain ⟨h3, h4⟩ := g1.bo j w h1
      exact ⟨h3, h2.trans h4⟩
    · obtain ⟨⟨w1, h1⟩, h2⟩ := g1.rf j w e
      obtain ⟨h3, h4⟩ := r4 j w1 h1
      exact ⟨h3, h4.trans h2⟩⟩
  | .asg (.name i) e => ⟨by
    intro ρ R h ok Z s ρD K I P
    simp only [cS] at h
    obtain ⟨d, ρ1, e1, h⟩ := bd_some.mp h
    obtain ⟨ρ4, e6, h⟩ := Option.map_eq_some_iff.mp h
    cases h
    simp only [vokS, Bool.and_eq_true, Option.isNone_iff_eq_none] at ok
    simp only [wpS]
    refine (vE hC e).v e1 ok.1.1 ok.1.2 I fun dd s1 Z1 g1 I1 r1 => ?_
    exact tg_go (tg := .name i) (by simpa only [utg] using e6) I1 r1 fun ρD' I' g' => P s1 Z1 ρD' (g1.trans g') I'⟩
  | .asg (.tup ts) e => ⟨by
    intro ρ R h ok Z s ρD K I P
    simp only [cS] at h
    obtain ⟨d, ρ1, e1, h⟩ := bd_some.mp h
    obtain ⟨ρ4, e6, h⟩ := Option.map_eq_some_iff.mp h
    cases h
    simp only [vokS, Bool.and_eq_true, Option.isNone_iff_eq_none] at ok
    simp only [wpS]
    refine (vE hC e).v e1 ok.1.1 ok.1.2 I fun dd s1 Z1 g1 I1 r1 => ?_
    exact tg_go (tg := .tup ts) e6 I1 r1 fun ρD' I' g' => P s1 Z1 ρD' (g1.trans g') I'⟩
  | .aug i op e => ⟨by
    intro ρ R h ok Z s ρD K I P
    simp only [cS] at h
    obtain ⟨x, e1, h⟩ := Option.bind_eq_some_iff.mp h
    obtain ⟨y, ρ1, e2, h⟩ := bd_some.mp h
    obtain ⟨z, e3, h⟩ := Option.bind_eq_some_iff.mp h
    obtain ⟨ρ4, e4, h⟩ := Option.map_eq_some_iff.mp h
    cases h
    simp only [vokS] at ok
    unfold rdV at e1
    split at e1
    · next w' hq =>
      have sl := I.sl i
      rw [hq] at sl
      obtain ⟨d, h1, h2⟩ := sl _ e1
      simp only [wpS, h1]
      refine (vE hC e).r e2 ok I fun dy s1 Z1 g1 I1 r1 => ?_
      refine p_aug (g1.fr.rep I h2).rd (r1.now I1) e3 fun dz rz => ?_
      obtain ⟨I4, g4⟩ := stV_go I1 e4 rz
      exact P s1 Z1 _ (g1.trans g4) I4
    · cases e1⟩
  | .augS o i op e => ⟨by
    intro ρ R h ok Z s ρD K I P
    simp only [cS] at h
    obtain ⟨x, ρ1, e1, h⟩ := bd_some.mp h
    obtain ⟨k, ρ2, e2, h⟩ := bd_some.mp h
    obtain ⟨x', e3, h⟩ := Option.bind_eq_some_iff.mp h
    split at h
    rotate_left
    · cases h
    next hcx =>
    obtain ⟨v, e4, h⟩ := Option.bind_eq_some_iff.mp h
    obtain ⟨z, ρ3, e5, h⟩ := bd_some.mp h
    obtain ⟨u, e6, h⟩ := Option.bind_eq_some_iff.mp h
    obtain ⟨x2, e7, h⟩ := Option.bind_eq_some_iff.mp h
    obtain ⟨n, e8, h⟩ := Option.bind_eq_some_iff.mp h
    obtain ⟨ρ4, e9, h⟩ := Option.map_eq_some_iff.mp h
    cases h
    simp only [vokS, Bool.and_eq_true] at ok
    simp only [wpS]
    refine (vE hC o).r e1 ok.1.1 I fun dx s1 Z1 g1 I1 r1 => (vE hC i).r e2 ok.1.2 I1 fun dk s2 Z2 g2 I2 r2 => ?_
    refine p_get (r1.later g2.fr I1 I2 e3) hcx (r2.now I2) e4 fun dv rv => ?_
    refine (vE hC e).r e5 ok.2 I2 fun dz s3 Z3 g3 I3 r3 => ?_
    refine p_aug (g3.fr.rep I2 rv).rd (r3.now I3) e6 fun du ru => ?_
    have g23 := g2.trans g3
    have hk : rdb Z3 s3 k dk := by
      have hk0 := uset_key e8
      exact (g3.fr.rep I2 ((r2.now I2).sc hk0.1 hk0.2)).rd
    refine p_set (r1.later g23.fr I1 I3 e7) hk ru e8 fun l oo hd hc => ?_
    obtain ⟨I4, g4⟩ := wr_go (x := x) (g1.trans g23) I3 (rr_slot r1 e9) e9 hd hc
    exact P _ Z3 ρD g4 I4⟩
  | .ife c a b => ⟨by
    intro ρ R h ok Z s ρD K I P
    simp only [cS] at h
    obtain ⟨t, ρ1, e1, h⟩ := bd_some.mp h
    simp only [vokS, Bool.and_eq_true] at ok
    simp only [wpS]
    refine (vT hC c).run e1 ok.1.1 I fun s1 Z1 g1 I1 => ?_
    cases t
    · rw [if_neg (by simp)] at h ⊢
      exact (vSs hC b).run h ok.2 I1 (P.after g1)
    · rw [if_pos rfl] at h ⊢
      exact (vSs hC a).run h ok.1.2 I1 (P.after g1)⟩
  | .for tg it body => ⟨by
    intro ρ R h ok Z s ρD K I P
    simp only [cS] at h
    obtain ⟨r, e1, h⟩ := Option.bind_eq_some_iff.mp h
    simp only [vokS, Bool.and_eq_true] at ok
    simp only [wpS]
    refine (vI hC it).run e1 ok.1.2 I fun chk ds s1 Z1 g1 I1 rx hck => ?_
    obtain ⟨IL, hsub, _⟩ := I1.lock r.lk
    have P1 := P.after g1
    cases hf : forU (fun x ρ => (utg tg x ρ).bind fun ρ2 => cSs C body ρ2) r.xs (lockO r.lk r.ρ) with
    | none => rw [hf] at h; simp [unRs] at h
    | some R1 =>
      rw [hf] at h
      have P2 : PostS Z1 s1 (lockO r.lk r.ρ) ρD R1 K := by
        cases R1 with
        | nx ρ' =>
          simp only [unRs] at h
          obtain ⟨ρ6, h1, h⟩ := Option.map_eq_some_iff.mp h
          cases h
          intro s' Z' ρD' g' I'
          obtain ⟨I6, g6⟩ := unlock_go I1 g' I' h1
          exact P1 s' Z' ρD' g6 I6
        | rt v ρ' =>
          simp only [unRs] at h
          obtain ⟨ρ6, h1, h⟩ := Option.map_eq_some_iff.mp h
          cases h
          intro d s' Z' ρD' g' I' r'
          obtain ⟨I6, g6⟩ := unlock_go I1 g' I' h1
          exact P1 d s' Z' ρD' g6 I6 r'
        | bk ρ' => simp [unRs] at h
        | ct ρ' => simp [unRs] at h
      refine for_go (K := K) (Z0 := Z1) (s0 := s1) (ρ0 := lockO r.lk r.ρ) (ρD0 := ρD) (fun Z' s' ρ' ρD' g' => hck Z' s' ρ' ρD' g') (fun x R ρ2 Z2 s2 ρD2 dx k ht I2 _ rx P3 => ?_) hf IL Go.refl rx P2
      obtain ⟨ρ3, h3, h4⟩ := Option.bind_eq_some_iff.mp ht
      exact tg_go h3 I2 rx fun ρD3 I3 g3 => (vSs hC body).run h4 ok.2 I3 (P3.after g3)⟩
  | .while c body => ⟨by
    intro ρ R h ok Z s ρD K I P
    simp only [cS] at h
    simp only [vokS, Bool.and_eq_true] at ok
    simp only [wpS]
    refine ⟨wfuel, while_go (K := K) (fun b ρ ρ' Z s ρD k h I hk => (vT hC c).run h ok.1 I hk) (fun R ρ Z s ρD k h I P => (vSs hC body).run h ok.2 I P) h I P⟩⟩
  | .ret e => ⟨by
    intro ρ R h ok Z s ρD K I P
    simp only [cS] at h
    obtain ⟨v, ρ1, e1, h⟩ := bd_some.mp h
    cases h
    simp only [vokS, Bool.and_eq_true, Option.isNone_iff_eq_none] at ok
    simp only [wpS]
    exact (vE hC e).v e1 ok.1 ok.2 I fun d s1 Z1 g1 I1 r1 => P d s1 Z1 ρD g1 I1 r1⟩
  | .retN => ⟨by
    intro ρ R h ok Z s ρD K I P
    simp only [cS] at h
    cases h
    simp only [wpS]
    exact P .non s Z ρD Go.refl I (by simp only [rep])⟩
  | .expr e => ⟨by
    intro ρ R h ok Z s ρD K I P
    simp only [cS] at h
    obtain ⟨v, ρ1, e1, h⟩ := bd_some.mp h
    cases h
    simp only [vokS] at ok
    simp only [wpS]
    exact (vE hC e).run e1 ok I fun d s1 Z1 g1 I1 r1 => P s1 Z1 ρD g1 I1⟩
  | .pass => ⟨by
    intro ρ R h ok Z s ρD K I P
    simp only [cS] at h
    cases h
    simp only [wpS]
    exact P s Z ρD Go.refl I⟩
  | .brk => ⟨by
    intro ρ R h ok Z s ρD K I P
    simp only [cS] at h
    cases h
    simp only [wpS]
    exact P s Z ρD Go.refl I⟩
  | .cont => ⟨by
    intro ρ R h ok Z s ρD K I P
    simp only [cS] at h
    cases h
    simp only [wpS]
    exact P s Z ρD Go.refl I⟩
theorem vSs (hC : CallOk Γ C Cd) : ∀ sts : List St, SsOk Γ C Cd sts
  | [] => ⟨by
    intro ρ R h ok Z s ρD K I P
    simp only [cSs] at h
    cases h
    simp only [wpSs]
    exact P s Z ρD Go.refl I⟩
  | st :: sts => ⟨by
    intro ρ R h ok Z s ρD K I P
    simp only [cSs] at h
    simp only [vokSs, Bool.and_eq_true] at ok
    simp only [wpSs]
    unfold sq at h
    split at h
    · next ρ1 e1 =>
      exact (vS hC st).run e1 ok.1 I fun s1 Z1 ρD1 g1 I1 => (vSs hC sts).run h ok.2 I1 (P.after g1)
    · next hn =>
      refine (vS hC st).run h ok.1 I ?_
      cases R with
      | nx ρ1 => exact absurd h (hn ρ1)
      | rt v ρ1 => exact P
      | bk ρ1 => exact P
      | ct ρ1 => exact P⟩
end
end
end PL
end

section
set_option autoImplicit false
set_option linter.all false
set_option maxHeartbeats 4000000
namespace PL
open PySem PySem.W PySem.SeqAt

/-! ## defs -/
def vokF (Γ : Cls) (f : Fn) (cl : List Pc) : Bool := decide (cl.length = f.np) && decide (cl.count .ref ≤ 1) && vokSs Γ f.body
def vokP (P : Prog) (Γ : Cls) : Bool := decide (P.length = Γ.length) && (List.zipWith (vokF Γ) P Γ).all id
section
variable {Z Z' : Nat → Prop} {s s' : S}
theorem zips_at (cl : List Pc) (vs : List U) (n i : Nat) (h : cl.length = vs.length) : (List.zipWith inS cl vs ++ List.replicate n (Sl.val none)).getD i .no = match cl[i]?, vs[i]? with | some c, some v => inS c v | _, _ => if i < cl.length + n then .val none else .no := by
  rw [List.getD_eq_getElem?_getD]
  by_cases hi : i < cl.length
  · rw [List.getElem?_append_left (by rw [List.length_zipWith]; omega), List.getElem?_zipWith, List.getElem?_eq_getElem hi, List.getElem?_eq_getElem (by omega : i < vs.length)]
    rfl
  · rw [List.getElem?_append_right (by rw [List.length_zipWith]; omega), List.getElem?_eq_none (by omega : cl.length ≤ i)]
    rw [List.getElem?_replicate, List.length_zipWith]
    by_cases h2 : i < cl.length + n
    · rw [if_pos (by omega)]
      simp only [if_pos h2]; rfl
    · rw [if_neg (by omega)]
      simp only [if_neg h2]; rfl
theorem start_at (ds : List D) (n i : Nat) : (ds.map some ++ List.replicate n none).getD i none = ds[i]? := by
  rw [List.getD_eq_getElem?_getD]
  by_cases hi : i < ds.length
  · rw [List.getElem?_append_left (by simpa using hi), List.getElem?_map, List.getElem?_eq_getElem hi]; rfl
  · rw [List.getElem?_append_right (by simp; omega), List.getElem?_eq_none (by omega : ds.length ≤ i)]
    rw [List.getElem?_replicate]
    split <;> rfl
theorem argsOk_at {F : Nat → Prop} : ∀ {cl : List Pc} {vs : List U} {ds : List D}, argsOk Z s F cl vs ds → cl.length = vs.length ∧ cl.length = ds.length ∧ ∀ (i : Nat) (c : Pc), cl[i]? = some c → ∃ v d, vs[i]? = some v ∧ ds[i]? = some d ∧ argOk Z s F c v d
  | [], vs, ds, h => by
    obtain ⟨rfl, rfl⟩ := h
    exact ⟨rfl, rfl, fun i c e => by simp at e⟩
  | c :: cs, vs, ds, h => by
    obtain ⟨v, vr, d, dr, rfl, rfl, h1, h2⟩ := h
    obtain ⟨l1, l2, h3⟩ := argsOk_at h2
    refine ⟨by simp [l1], by simp [l2], fun i c' e => ?_⟩
    cases i with
    | zero => simp at e; subst e; exact ⟨v, d, rfl, rfl, h1⟩
    | succ i =>
      obtain ⟨v', d', e1, e2, e3⟩ := h3 i c' (by simpa using e)
      exact ⟨v', d', by simpa using e1, by simpa using e2, e3⟩
theorem ref_uniq : ∀ {cl : List Pc} {i j : Nat}, cl.count .ref ≤ 1 → cl[i]? = some Pc.ref → cl[j]? = some Pc.ref → i = j
  | [], i, j, _, h, _ => by simp at h
  | c :: cs, 0, 0, _, _, _ => rfl
  | c :: cs, 0, j + 1, h, h1, h2 => by
    simp at h1; subst h1
    rw [List.count_cons] at h
    have : cs.count .ref = 0 := by simp at h; simpa using h
    exact absurd (List.mem_of_getElem? (by simpa using h2)) (List.count_eq_zero.mp this)
  | c :: cs, i + 1, 0, h, h1, h2 => by
    simp at h2; subst h2
    rw [List.count_cons] at h
    have : cs.count .ref = 0 := by simp at h; simpa using h
    exact absurd (List.mem_of_getElem? (by simpa using h1)) (List.count_eq_zero.mp this)
  | c :: cs, i + 1, j + 1, h, h1, h2 => by
    rw [List.count_cons] at h
    rw [ref_uniq (cl := cs) (i := i) (j := j) (by omega) (by simpa using h1) (by simpa using h2)]
theorem inv_start {f : Fn} {cl : List Pc} {vs : List U} {ds : List D} (hc : cl.count .ref ≤ 1) (zd : ∀ a, Z a → s a ≠ none) (h : argsOk Z s (refLoc cl ds) cl vs ds) : Inv Z s (startU f cl vs) (startV f ds) ∧ (∀ a, foot (startU f cl vs) (startV f ds) a → refLoc cl ds a) := by
  obtain ⟨l1, l2, h3⟩ := argsOk_at h
  have gu : ∀ i, (startU f cl vs).getD i .no = match cl[i]?, vs[i]? with | some c, some v => inS c v | _, _ => if i < cl.length + (f.nl - vs.length) then .val none else .no := fun i => zips_at cl vs _ i l1
  have gd : ∀ i, (startV f ds).getD i none = ds[i]? := fun i => start_at ds _ i
  have hfoot : ∀ a, foot (startU f cl vs) (startV f ds) a → refLoc cl ds a := fun a ⟨i, o, e⟩ => by
    rw [gu] at o
    rw [gd] at e
    cases q : cl[i]? with
    | none => rw [q] at o; simp only at o; split at o <;> exact o.elim
    | some c =>
      obtain ⟨v, d, e1, e2, _⟩ := h3 i c q
      rw [q, e1] at o
      simp only at o
      cases c with
      | val => exact o.elim
      | bor => exact o.elim
      | ref => exact ⟨i, q, e⟩
  refine ⟨⟨?_, fun i => ?_, fun i j a hij oi oj ei ej => ?_, zd, fun i a e => ?_⟩, hfoot⟩
  · unfold startU startV
    rw [List.length_append, List.length_append, List.length_zipWith, List.length_map, List.length_replicate, List.length_replicate]
    omega
  · rw [gu, gd]
    cases q : cl[i]? with
    | none =>
      simp only
      split
      · exact fun u hu => by cases hu
      · trivial
    | some c =>
      obtain ⟨v, d, e1, e2, h4⟩ := h3 i c q
      rw [e1, e2]
      simp only
      cases c with
      | val => exact fun u hu => by cases hu; exact ⟨d, rfl, h4⟩
      | bor =>
        obtain ⟨h5, h6⟩ := h4
        exact ⟨d, rfl, h5, fun a ea f => (h6 a ea).1 (hfoot a f)⟩
      | ref =>
        obtain ⟨a, o, rfl, h5, h6, h7⟩ := h4
        exact ⟨a, o, rfl, h5, h6, h7⟩
  · have g : ∀ i, ow ((startU f cl vs).getD i .no) → cl[i]? = some Pc.ref := fun i o => by
      rw [gu] at o
      cases q : cl[i]? with
      | none => rw [q] at o; simp only at o; split at o <;> exact o.elim
      | some c =>
        obtain ⟨v, d, e1, e2, _⟩ := h3 i c q
        rw [q, e1] at o
        simp only at o
        cases c with
        | val => exact o.elim
        | bor => exact o.elim
        | ref => rfl
    exact hij (ref_uniq hc (g i oi) (g j oj))
  · rw [gd] at e
    have hi : i < ds.length := (List.getElem?_eq_some_iff.mp e).1
    obtain ⟨v, d, e1, e2, h4⟩ := h3 i cl[i] (List.getElem?_eq_getElem (by omega))
    rw [e] at e2
    cases e2
    generalize cl[i] = c at h4
    cases c with
    | val => exact zd a (rep_loc h4)
    | bor => exact (h4.2 a rfl).2
    | ref =>
      obtain ⟨a', o, e3, _, h6, _⟩ := h4
      cases e3
      rw [h6]; simp
theorem fin_of : ∀ {cl : List Pc} {ds : List D} {ρs : Env} {fin : List (Option U)}, finU cl ρs = some fin → cl.length = ds.length → (∀ (j : Nat), cl[j]? = some Pc.ref → ∃ v a o, ρs[j]? = some (.ref v) ∧ ds[j]? = some (.loc a) ∧ ¬Z a ∧ s a = some o ∧ contO Z s v o) → finOk Z s cl ds fin
  | [], ds, ρs, fin, h, hl, _ => by
    simp only [finU, Option.some.injEq] at h
    subst h
    cases ds with
    | nil => simp only [finOk]
    | cons _ _ => simp at hl
  | c :: cs, [], ρs, fin, h, hl, _ => by simp at hl
  | c :: cs, d :: ds, [], fin, h, hl, _ => by cases c <;> simp [finU] at h
  | c :: cs, d :: ds, x :: ρs, fin, h, hl, hj => by
    have tl : ∀ {r : List (Option U)}, finU cs ρs = some r → finOk Z s cs ds r := fun {r} h => fin_of h (by simpa using hl) fun j hc => by
      obtain ⟨v, a, o, e1, e2, e3⟩ := hj (j + 1) (by simpa using hc)
      exact ⟨v, a, o, by simpa using e1, by simpa using e2, e3⟩
    cases c with
    | val =>
      simp only [finU] at h
      obtain ⟨r, h1, rfl⟩ := Option.map_eq_some_iff.mp h
      simp only [finOk]; exact tl h1
    | bor =>
      simp only [finU] at h
      obtain ⟨r, h1, rfl⟩ := Option.map_eq_some_iff.mp h
      simp only [finOk]; exact tl h1
    | ref =>
      obtain ⟨v, a, o, e1, e2, e3, e4, e5⟩ := hj 0 rfl
      simp at e1 e2
      subst e1 e2
      simp only [finU] at h
      obtain ⟨r, h1, rfl⟩ := Option.map_eq_some_iff.mp h
      simp only [finOk]
      exact ⟨⟨a, o, rfl, e3, e4, e5⟩, tl h1⟩
theorem fin_refs : ∀ {cl : List Pc} {ρs : Env} {fin : List (Option U)}, finU cl ρs = some fin → ∀ j : Nat, cl[j]? = some Pc.ref → ∃ v : U, fin[j]? = some (some v)
  | [], ρs, fin, h, j, e => by simp at e
  | c :: cs, [], fin, h, j, e => by cases c <;> simp [finU] at h
  | c :: cs, x :: ρs, fin, h, j, e => by
    cases j with
    | zero =>
      simp at e; subst e
      cases x <;> simp only [finU, reduceCtorEq] at h
      obtain ⟨r, h1, rfl⟩ := Option.map_eq_some_iff.mp h
      exact ⟨_, rfl⟩
    | succ j =>
      have tl : ∃ y r, finU cs ρs = some r ∧ fin = y :: r := by
        cases c <;> cases x <;> simp only [finU, reduceCtorEq] at h <;> (obtain ⟨r, h1, rfl⟩ := Option.map_eq_some_iff.mp h; exact ⟨_, r, h1, rfl⟩)
      obtain ⟨y, r, h1, rfl⟩ := tl
      obtain ⟨v, hv⟩ := fin_refs h1 j (by simpa using e)
      exact ⟨v, by simpa using hv⟩
end
/-- the defs of a program -/
theorem call_ok {P : Prog} {Γ : Cls} (hP : vokP P Γ = true) : ∀ k, CallOk Γ (cF P Γ k) (wpF P k)
  | 0 => ⟨wpF_mono P 0, fun f vs r fin h => by simp [cF] at h, fun f vs r fin h => by simp [cF] at h, fun f vs r fin h => by simp [cF] at h⟩
  | k + 1 => by
    have ih := call_ok hP k
    unfold vokP at hP
    rw [Bool.and_eq_true, decide_eq_true_eq, List.all_eq_true] at hP
    have inv : ∀ {f vs r fin}, cF P Γ (k + 1) f vs = some (r, fin) → ∃ fn cl, P[f]? = some fn ∧ Γ[f]? = some cl ∧ vokF Γ fn cl = true ∧ vs.length = fn.np ∧ cl.length = fn.np ∧ refsC cl vs = true ∧ endU cl (cSs (cF P Γ k) fn.body (startU fn cl vs)) = some (r, fin) := fun {f vs r fin} h => by
      simp only [cF] at h
      split at h
      · next fn cl e1 e2 =>
        split at h
        · next hl =>
          refine ⟨fn, cl, e1, e2, ?_, hl.1, hl.2.1, hl.2.2, h⟩
          have := hP.2 (vokF Γ fn cl) (List.mem_of_getElem? (i := f) (by rw [List.getElem?_zipWith, e1, e2]))
          simpa using this
        · cases h
      · cases h
    refine ⟨wpF_mono P (k + 1), fun f vs r fin h Z s ds Q zd ha hcnt K => ?_, fun f vs r fin h => ?_, fun f vs r fin h hcon j hj => ?_⟩
    · obtain ⟨fn, cl, e1, e2, hv, l1, l2, hrc, he⟩ := inv h
      rw [e2, Option.getD_some] at ha hcnt K
      obtain ⟨al1, al2, _⟩ := argsOk_at ha
      simp only [wpF, e1]
      refine ⟨by rw [← al2]; exact l2, ?_⟩
      obtain ⟨I0, hfoot⟩ := inv_start (f := fn) hcnt zd ha
      unfold vokF at hv
      simp only [Bool.and_eq_true] at hv
      -- what is left of the objects handed on
      have fin_end : ∀ {ρ' : Env} {fin' : List (Option U)} {s' : S} {Z' : Nat → Prop} {ρD' : Vs}, finR cl ρ' = some fin' → Go Z s (startU fn cl vs) (startV fn ds) Z' s' ρ' ρD' → Inv Z' s' ρ' ρD' → if cl.contains .ref = true then finOk Z' s' cl ds fin' else fin' = [] := fun {ρ' fin' s' Z' ρD'} hf g I' => by
        unfold finR at hf
        by_cases hcon : cl.contains .ref = true
        · rw [if_pos hcon] at hf ⊢
          refine fin_of hf al2 fun j hj => ?_
          obtain ⟨_, _, h3⟩ := argsOk_at ha
          obtain ⟨v, d, g1, g2, a, o, rfl, _⟩ := h3 j .ref hj
          have gu : (startU fn cl vs).getD j .no = .ref v := by
            unfold startU
            rw [zips_at cl vs _ j al1, hj, g1]; rfl
          obtain ⟨⟨v', q1⟩, q2⟩ := g.rf j v gu
          have gd : ρD'.getD j none = some (.loc a) := by
            rw [q2]; unfold startV; rw [start_at, g2]
          have sl := I'.sl j
          rw [q1, gd] at sl
          obtain ⟨a', o', e3, n1, n2, n3⟩ := sl
          cases e3
          refine ⟨v', a, o', ?_, g2, n1, n2, n3⟩
          rw [List.getD_eq_getElem?_getD] at q1
          cases q : ρ'[j]? with
          | none => rw [q] at q1; cases q1
          | some x => rw [q] at q1; simp at q1; rw [q1]
        · rw [if_neg hcon] at hf ⊢
          cases hf; rfl
      have frR : ∀ {ρ' : Env} {s' : S} {Z' : Nat → Prop} {ρD' : Vs}, Go Z s (startU fn cl vs) (startV fn ds) Z' s' ρ' ρD' → Fr Z s (refLoc cl ds) Z' s' (refLoc cl ds) := fun {ρ' s' Z' ρD'} g =>
        ⟨g.fr.dom, fun a e nf => g.fr.pres a e fun f => nf (hfoot a f), g.fr.zup, fun a z => by
          rcases g.fr.znew a z with z | z | z
          · exact .inl z
          · exact .inr (.inl z)
          · exact .inr (.inr (hfoot a z)), fun a f => .inl f⟩
      cases hR : cSs (cF P Γ k) fn.body (startU fn cl vs) with
      | none => rw [hR] at he; simp [endU] at he
      | some R =>
        rw [hR] at he
        refine (vSs ih fn.body).run hR hv.2 I0 ?_
        cases R with
        | nx ρ' =>
          simp only [endU] at he
          obtain ⟨fin', hf, he⟩ := Option.map_eq_some_iff.mp he
          cases he
          intro s' Z' ρD' g I'
          exact ⟨s', S.le_refl _, K .non s' Z' (frR g) (by simp only [rep]) I'.zd (fin_end hf g I')⟩
        | rt v ρ' =>
          simp only [endU] at he
          obtain ⟨fin', hf, he⟩ := Option.map_eq_some_iff.mp he
          cases he
          intro d s' Z' ρD' g I' r'
          exact ⟨s', S.le_refl _, K d s' Z' (frR g) r' I'.zd (fin_end hf g I')⟩
        | bk ρ' => simp [endU] at he
        | ct ρ' => simp [endU] at he
    · obtain ⟨fn, cl, e1, e2, _, _, _, hrc, _⟩ := inv h
      rw [e2]; exact hrc
    · obtain ⟨fn, cl, e1, e2, _, _, _, _, he⟩ := inv h
      rw [e2, Option.getD_some] at hcon hj
      cases hR : cSs (cF P Γ k) fn.body (startU fn cl vs) with
      | none => rw [hR] at he; simp [endU] at he
      | some R =>
        rw [hR] at he
        cases R with
        | nx ρ' =>
          simp only [endU] at he
          obtain ⟨fin', hf, he⟩ := Option.map_eq_some_iff.mp he
          cases he
          unfold finR at hf
          rw [if_pos hcon] at hf
          exact fin_refs hf j hj
        | rt v ρ' =>
          simp only [endU] at he
          obtain ⟨fin', hf, he⟩ := Option.map_eq_some_iff.mp he
          cases he
          unfold finR at hf
          rw [if_pos hcon] at hf
          exact fin_refs hf j hj
        | bk ρ' => simp [endU] at he
        | ct ρ' => simp [endU] at he
end PL

namespace PL
/-- the law, over values -/
theorem law_val {P : Prog} {Γ : Cls} {k li : Nat} (hP : vokP P Γ = true) (hcl : (Γ[li]?).getD [] = [.val]) (h : ∀ ns : List Int, ns.length ≤ 63 → cF P Γ k li [.rol (ns.map U.int)] = some (.bl true, [])) :
    ∀ ns : List Int, ns.length ≤ 63 → wpF P k li [.loc 0] (S0 ns) fun v _ => v = .bl true := fun ns hn => by
  refine (call_ok hP k).run li [.rol (ns.map U.int)] (.bl true) [] (h ns hn) (· = 0) (S0 ns) [.loc 0] _ (fun a z => ?_) ?_ (by rw [hcl]; decide) fun d s' Z' f r zd hf => ?_
  · subst z; simp [S0]
  · rw [hcl]
    refine ⟨_, _, _, _, rfl, rfl, ?_, rfl, rfl⟩
    show rep _ _ _ _
    simp only [rep]
    refine ⟨0, ns.map D.int, rfl, rfl, rfl, reps.map fun i _ => by simp only [rep]⟩
  · simpa only [rep] using r
end PL
end

section
set_option autoImplicit false
set_option linter.all false
set_option maxHeartbeats 4000000
namespace PL
open PySem PySem.W PySem.SeqAt

/-! ## the evaluator, kept shut: its equations are all that is used -/
structure EvS where
  e : Cv → E → Env → Option (U × Env)
  es : Cv → List E → Env → Option (List U × Env)
  o : Cv → Option E → Env → Option (Option Int × Env)
  c : Cv → Option E → Env → Option (Bool × Env)
  an : Cv → List E → Env → Option (U × Env)
  oo : Cv → List E → Env → Option (U × Env)
  t : Cv → E → Env → Option (Bool × Env)
  at' : Cv → List E → Env → Option (Bool × Env)
  ot : Cv → List E → Env → Option (Bool × Env)
  i : Cv → E → Env → Option Ic
  s : Cv → St → Env → Option Rs
  ss : Cv → List St → Env → Option Rs
  f : Prog → Cls → Nat → Cv
theorem ev_ex : ∃ x : EvS, x = ⟨cE, cEs, cO, cC, cAnd, cOr, cT, cAndT, cOrT, cI, cS, cSs, cF⟩ := ⟨_, rfl⟩
noncomputable def ev : EvS := Classical.choose ev_ex
theorem ev_eq : ev = ⟨cE, cEs, cO, cC, cAnd, cOr, cT, cAndT, cOrT, cI, cS, cSs, cF⟩ := Classical.choose_spec ev_ex
noncomputable def uE := ev.e
noncomputable def uEs := ev.es
noncomputable def uO := ev.o
noncomputable def uC := ev.c
noncomputable def uAnd := ev.an
noncomputable def uOr := ev.oo
noncomputable def uT := ev.t
noncomputable def uAndT := ev.at'
noncomputable def uOrT := ev.ot
noncomputable def uI := ev.i
noncomputable def uS := ev.s
noncomputable def uSs := ev.ss
noncomputable def uF := ev.f
theorem uE_eq : uE = cE := by unfold uE; rw [ev_eq]
theorem uEs_eq : uEs = cEs := by unfold uEs; rw [ev_eq]
theorem uO_eq : uO = cO := by unfold uO; rw [ev_eq]
theorem uC_eq : uC = cC := by unfold uC; rw [ev_eq]
theorem uAnd_eq : uAnd = cAnd := by unfold uAnd; rw [ev_eq]
theorem uOr_eq : uOr = cOr := by unfold uOr; rw [ev_eq]
theorem uT_eq : uT = cT := by unfold uT; rw [ev_eq]
theorem uAndT_eq : uAndT = cAndT := by unfold uAndT; rw [ev_eq]
theorem uOrT_eq : uOrT = cOrT := by unfold uOrT; rw [ev_eq]
theorem uI_eq : uI = cI := by unfold uI; rw [ev_eq]
theorem uS_eq : uS = cS := by unfold uS; rw [ev_eq]
theorem uSs_eq : uSs = cSs := by unfold uSs; rw [ev_eq]
theorem uF_eq : uF = cF := by unfold uF; rw [ev_eq]
section
variable {C : Cv} {ρ : Env}
theorem u_var {i : Nat} : uE C (.var i) ρ = (rdV ρ i).map fun v => (v, ρ) := by simp only [uE_eq, cE]
theorem u_own {i : Nat} : uE C (.own i) ρ = (rdO ρ i).map fun v => (v, ρ) := by simp only [uE_eq, cE]
theorem u_mv {i : Nat} : uE C (.mv i) ρ = mvO ρ i := by simp only [uE_eq, cE]
theorem u_int {i : Int} : uE C (.int i) ρ = some (.int i, ρ) := by simp only [uE_eq, cE]
theorem u_str {i : Str} : uE C (.str i) ρ = some (.str i, ρ) := by simp only [uE_eq, cE]
theorem u_bl {i : Bool} : uE C (.bl i) ρ = some (.bl i, ρ) := by simp only [uE_eq, cE]
theorem u_non : uE C .non ρ = some (.non, ρ) := by simp only [uE_eq, cE]
theorem u_tup {es : List E} : uE C (.tup es) ρ = bd (uEs C es ρ) fun vs ρ1 => some (.tup vs, ρ1) := by simp only [uE_eq, uEs_eq, cE]
theorem u_lst {es : List E} : uE C (.lst es) ρ = bd (uEs C es ρ) fun vs ρ1 => some (.lst vs, ρ1) := by simp only [uE_eq, uEs_eq, cE]
theorem u_dic {ks : List Str} {es : List E} : uE C (.dic ks es) ρ = bd (uEs C es ρ) fun vs ρ1 => some (.dic ((ks.map U.str).zip vs), ρ1) := by simp only [uE_eq, uEs_eq, cE]
theorem u_bin {op : Op} {a b : E} : uE C (.bin op a b) ρ = bd (uE C a ρ) fun x ρ1 => bd (uE C b ρ1) fun y ρ2 => (rdA a x ρ2).bind fun x' => (ubin op x' y).map fun v => (v, ρ2) := by simp only [uE_eq, cE]
theorem u_neg {a : E} : uE C (.neg a) ρ = bd (uE C a ρ) fun x ρ1 => (negU x).map fun v => (v, ρ1) := by simp only [uE_eq, cE]
theorem u_not {a : E} : uE C (.not a) ρ = bd (uE C a ρ) fun x ρ1 => (truU x).map fun b => (.bl (!b), ρ1) := by simp only [uE_eq, cE]
theorem u_and {es : List E} : uE C (.and es) ρ = uAnd C es ρ := by simp only [uE_eq, uAnd_eq, cE]
theorem u_or {es : List E} : uE C (.or es) ρ = uOr C es ρ := by simp only [uE_eq, uOr_eq, cE]
theorem u_ife {c a b : E} : uE C (.ife c a b) ρ = bd (uT C c ρ) fun t ρ1 => if t = true then uE C a ρ1 else uE C b ρ1 := by simp only [uE_eq, uT_eq, cE]
theorem u_cmp {op : Cm} {a b : E} : uE C (.cmp op a b) ρ = bd (uE C a ρ) fun x ρ1 => bd (uE C b ρ1) fun y ρ2 => (rdA a x ρ2).bind fun x' => (ucm op x' y).map fun t => (.bl t, ρ2) := by simp only [uE_eq, cE]
theorem u_chain {o1 o2 : Cm} {a b c : E} : uE C (.chain o1 o2 a b c) ρ = bd (uE C a ρ) fun x ρ1 => bd (uE C b ρ1) fun y ρ2 => (rdA a x ρ2).bind fun x' => (ucm o1 x' y).bind fun t => if t = true then bd (uE C c ρ2) fun z ρ3 => (rdA b y ρ3).bind fun y' => (ucm o2 y' z).map fun t => (.bl t, ρ3) else some (.bl false, ρ2) := by simp only [uE_eq, cE]
theorem u_isN {n : Bool} {a : E} : uE C (.isN n a) ρ = bd (uE C a ρ) fun x ρ1 => some (.bl (isNU n x), ρ1) := by simp only [uE_eq, cE]
theorem u_call {f : Nat} {es : List E} : uE C (.call f es) ρ = bd (uEs C es ρ) fun vs ρ1 => (rdAs es vs ρ1).bind fun vs' => (C f vs').bind fun r => (wrs es r.2 ρ1).map fun ρ2 => (r.1, ρ2) := by simp only [uE_eq, uEs_eq, cE]
theorem u_bi {b : Bi} {es : List E} : uE C (.bi b es) ρ = bd (uEs C es ρ) fun vs ρ1 => (rdAs es vs ρ1).bind fun vs' => (ubi b vs').map fun v => (v, ρ1) := by simp only [uE_eq, uEs_eq, cE]
def afterMt (o : E) (ρ2 : Env) (r : U × Option U) : Option (U × Env) := match r.2 with
  | none => some (r.1, ρ2)
  | some n => (wrE o n ρ2).map fun ρ3 => (r.1, ρ3)
theorem u_mt {m : Mt} {o : E} {es : List E} : uE C (.mt m o es) ρ = bd (uE C o ρ) fun x ρ1 => if recvU m x = true then bd (uEs C es ρ1) fun vs ρ2 => (rdAs es vs ρ2).bind fun vs' => (rdA o x ρ2).bind fun x' => (umt m x' vs').bind fun r => afterMt o ρ2 r else none := by simp only [uE_eq, uEs_eq, cE]; rfl
theorem u_ix {a b : E} : uE C (.ix a b) ρ = bd (uE C a ρ) fun x ρ1 => bd (uE C b ρ1) fun y ρ2 => (rdA a x ρ2).bind fun x' => (uix x' y).map fun v => (v, ρ2) := by simp only [uE_eq, cE]
theorem u_sl {a : E} {lo hi : Option E} : uE C (.sl a lo hi) ρ = bd (uE C a ρ) fun x ρ1 => bd (uO C lo ρ1) fun l ρ2 => bd (uO C hi ρ2) fun h ρ3 => (rdA a x ρ3).bind fun x' => (usl x' l h).map fun v => (v, ρ3) := by simp only [uE_eq, uO_eq, cE]
theorem u_nil : uEs C [] ρ = some ([], ρ) := by simp only [uEs_eq, cEs]
theorem u_cons {e : E} {es : List E} : uEs C (e :: es) ρ = bd (uE C e ρ) fun x ρ1 => bd (uEs C es ρ1) fun xs ρ2 => some (x :: xs, ρ2) := by simp only [uE_eq, uEs_eq, cEs]
theorem u_oN : uO C none ρ = some (none, ρ) := by simp only [uO_eq, cO]
theorem u_oS {e : E} : uO C (some e) ρ = bd (uE C e ρ) fun x ρ1 => (uInt x).map fun i => (some i, ρ1) := by simp only [uE_eq, uO_eq, cO]
theorem u_cN : uC C none ρ = some (true, ρ) := by simp only [uC_eq, cC]
theorem u_cS {e : E} : uC C (some e) ρ = uT C e ρ := by simp only [uC_eq, uT_eq, cC]
theorem u_and1 {e : E} : uAnd C [e] ρ = uE C e ρ := by simp only [uE_eq, uAnd_eq, cAnd]
theorem u_and2 {e e' : E} {es : List E} : uAnd C (e :: e' :: es) ρ = bd (uE C e ρ) fun x ρ1 => (uBl x).bind fun b => if b = true then uAnd C (e' :: es) ρ1 else some (.bl false, ρ1) := by simp only [uE_eq, uAnd_eq, cAnd]
theorem u_or1 {e : E} : uOr C [e] ρ = uE C e ρ := by simp only [uE_eq, uOr_eq, cOr]
theorem u_or2 {e e' : E} {es : List E} : uOr C (e :: e' :: es) ρ = bd (uE C e ρ) fun x ρ1 => (uBl x).bind fun b => if b = true then some (.bl true, ρ1) else uOr C (e' :: es) ρ1 := by simp only [uE_eq, uOr_eq, cOr]
theorem ut_not {a : E} : uT C (.not a) ρ = bd (uT C a ρ) fun b ρ1 => some (!b, ρ1) := by simp only [uT_eq, cT]
theorem ut_and {es : List E} : uT C (.and es) ρ = uAndT C es ρ := by simp only [uT_eq, uAndT_eq, cT]
theorem ut_or {es : List E} : uT C (.or es) ρ = uOrT C es ρ := by simp only [uT_eq, uOrT_eq, cT]
theorem ut_ife {c a b : E} : uT C (.ife c a b) ρ = bd (uT C c ρ) fun t ρ1 => if t = true then uT C a ρ1 else uT C b ρ1 := by simp only [uT_eq, cT]
theorem ut_isN {n : Bool} {a : E} : uT C (.isN n a) ρ = bd (uE C a ρ) fun x ρ1 => some (isNU n x, ρ1) := by simp only [uE_eq, uT_eq, cT]
theorem ut_chain {o1 o2 : Cm} {a b c : E} : uT C (.chain o1 o2 a b c) ρ = bd (uE C a ρ) fun x ρ1 => bd (uE C b ρ1) fun y ρ2 => (rdA a x ρ2).bind fun x' => (ucm o1 x' y).bind fun t => if t = true then bd (uE C c ρ2) fun z ρ3 => (rdA b y ρ3).bind fun y' => (ucm o2 y' z).map fun t => (t, ρ3) else some (false, ρ2) := by simp only [uE_eq, uT_eq, cT]
theorem ut_cmp {op : Cm} {a b : E} : uT C (.cmp op a b) ρ = bd (uE C a ρ) fun x ρ1 => bd (uE C b ρ1) fun y ρ2 => (rdA a x ρ2).bind fun x' => (ucm op x' y).map fun t => (t, ρ2) := by simp only [uE_eq, uT_eq, cT]
theorem ut_val {e : E} : uT C (.val e) ρ = bd (uE C e ρ) fun x ρ1 => (truU x).map fun b => (b, ρ1) := by simp only [uE_eq, uT_eq, cT]
theorem ut_and1 {e : E} : uAndT C [e] ρ = uT C e ρ := by simp only [uT_eq, uAndT_eq, cAndT]
theorem ut_and2 {e e' : E} {es : List E} : uAndT C (e :: e' :: es) ρ = bd (uT C e ρ) fun b ρ1 => if b = true then uAndT C (e' :: es) ρ1 else some (false, ρ1) := by simp only [uT_eq, uAndT_eq, cAndT]
theorem ut_or1 {e : E} : uOrT C [e] ρ = uT C e ρ := by simp only [uT_eq, uOrT_eq, cOrT]
theorem ut_or2 {e e' : E} {es : List E} : uOrT C (e :: e' :: es) ρ = bd (uT C e ρ) fun b ρ1 => if b = true then some (true, ρ1) else uOrT C (e' :: es) ρ1 := by simp only [uT_eq, uOrT_eq, cOrT]
theorem ui_rng {es : List E} : uI C (.rng es) ρ = bd (uEs C es ρ) fun vs ρ1 => (rdAs es vs ρ1).bind fun vs' => (rngU vs').map fun r => ⟨none, rangeU r.1 r.2.1 r.2.2, ρ1⟩ := by simp only [uI_eq, uEs_eq, cI]
theorem ui_zip {a b : E} : uI C (.zip a b) ρ = bd (uE C a ρ) fun x ρ1 => bd (uE C b ρ1) fun y ρ2 => (zipU x y).map fun xs => ⟨none, xs, ρ2⟩ := by simp only [uI_eq, uE_eq, cI]
theorem ui_rev {a : E} : uI C (.rev a) ρ = bd (uE C a ρ) fun x ρ1 => (itemsU x).map fun xs => ⟨lkOf a, xs.reverse, ρ1⟩ := by simp only [uI_eq, uE_eq, cI]
theorem ui_itm {a : E} : uI C (.itm a) ρ = bd (uE C a ρ) fun x ρ1 => (itmU x).map fun xs => ⟨lkOf a, xs, ρ1⟩ := by simp only [uI_eq, uE_eq, cI]
theorem ui_val {a : E} : uI C (.val a) ρ = bd (uE C a ρ) fun x ρ1 => (uiter x).map fun xs => ⟨lkOf a, xs, ρ1⟩ := by simp only [uI_eq, uE_eq, cI]
theorem us_asgS {o i e : E} : uS C (.asg (.sub o i) e) ρ = bd (uE C e ρ) fun d ρ1 => bd (uE C o ρ1) fun x ρ2 => bd (uE C i ρ2) fun k ρ3 => (rdA o x ρ3).bind fun x' => (uset x' k d).bind fun n => (wrE o n ρ3).map .nx := by simp only [uS_eq, uE_eq, cS]
theorem us_asgO {i : Nat} {e : E} : uS C (.asg (.own i) e) ρ = bd (uE C e ρ) fun d ρ1 => (stO ρ1 i d).map .nx := by simp only [uS_eq, uE_eq, cS]
theorem us_asg {i : Nat} {e : E} : uS C (.asg (.name i) e) ρ = bd (uE C e ρ) fun d ρ1 => (stV ρ1 i d).map .nx := by simp only [uS_eq, uE_eq, cS]
theorem us_asgT {ts : List Tg} {e : E} : uS C (.asg (.tup ts) e) ρ = bd (uE C e ρ) fun d ρ1 => (utg (.tup ts) d ρ1).map .nx := by simp only [uS_eq, uE_eq, cS]
theorem us_aug {i : Nat} {op : Op} {e : E} : uS C (.aug i op e) ρ = (rdV ρ i).bind fun x => bd (uE C e ρ) fun y ρ1 => (uaug op x y).bind fun z => (stV ρ1 i z).map .nx := by simp only [uS_eq, uE_eq, cS]
theorem us_augS {o i e : E} {op : Op} : uS C (.augS o i op e) ρ = bd (uE C o ρ) fun x ρ1 => bd (uE C i ρ1) fun k ρ2 => (rdA o x ρ2).bind fun x' => if isC x' = true then (uix x' k).bind fun v => bd (uE C e ρ2) fun z ρ3 => (uaug op v z).bind fun u => (rdA o x ρ3).bind fun x'' => (uset x'' k u).bind fun n => (wrE o n ρ3).map .nx else none := by simp only [uS_eq, uE_eq, cS]
theorem us_ife {c : E} {a b : List St} : uS C (.ife c a b) ρ = bd (uT C c ρ) fun t ρ1 => if t = true then uSs C a ρ1 else uSs C b ρ1 := by simp only [uS_eq, uT_eq, uSs_eq, cS]
theorem us_for {tg : Tg} {it : E} {body : List St} : uS C (.for tg it body) ρ = (uI C it ρ).bind fun r => unRs r.lk r.ρ (forU (fun x ρ => (utg tg x ρ).bind fun ρ2 => uSs C body ρ2) r.xs (lockO r.lk r.ρ)) := by simp only [uS_eq, uI_eq, uSs_eq, cS]
theorem us_while {c : E} {body : List St} : uS C (.while c body) ρ = whileU (fun ρ => uT C c ρ) (fun ρ => uSs C body ρ) wfuel ρ := by simp only [uS_eq, uT_eq, uSs_eq, cS]
theorem us_ret {e : E} : uS C (.ret e) ρ = bd (uE C e ρ) fun v ρ1 => some (.rt v ρ1) := by simp only [uS_eq, uE_eq, cS]
theorem us_retN : uS C .retN ρ = some (.rt .non ρ) := by simp only [uS_eq, cS]
theorem us_expr {e : E} : uS C (.expr e) ρ = bd (uE C e ρ) fun _ ρ1 => some (.nx ρ1) := by simp only [uS_eq, uE_eq, cS]
theorem us_pass : uS C .pass ρ = some (.nx ρ) := by simp only [uS_eq, cS]
theorem us_brk : uS C .brk ρ = some (.bk ρ) := by simp only [uS_eq, cS]
theorem us_cont : uS C .cont ρ = some (.ct ρ) := by simp only [uS_eq, cS]
theorem us_nil : uSs C [] ρ = some (.nx ρ) := by simp only [uSs_eq, cSs]
theorem us_cons {st : St} {r : List St} : uSs C (st :: r) ρ = sq (uS C st ρ) fun ρ' => uSs C r ρ' := by simp only [uSs_eq, uS_eq, cSs]
noncomputable def cturn (C : Cv) (el : E) (tg : List Nat) (tup : Bool) (cond : Option E) (own : List Nat) (x : U) (ρ : Env) : Option (Option U × Env) := (bindW tg tup own x ρ).bind fun ρ' => bd (uC C cond ρ') fun b ρ3 => if b = true then bd (uE C el ρ3) fun y ρ4 => some (some y, backU ρ own ρ4) else some (none, backU ρ own ρ3)
theorem u_compE {el it : E} {tg own : List Nat} {tup : Bool} {cond : Option E} : uE C (.comp el tg tup it cond own) ρ = (uI C it ρ).bind fun r => if r.xs.length ≤ lim then bd (compU (cturn C el tg tup cond own) r.xs (lockO r.lk r.ρ)) fun ys ρ5 => (unlockO r.lk r.ρ ρ5).map fun ρ6 => (.lst ys, ρ6) else none := by
  have h : cturn C el tg tup cond own = fun x ρ => (bindW tg tup own x ρ).bind fun ρ' => bd (uC C cond ρ') fun b ρ3 => if b = true then bd (uE C el ρ3) fun y ρ4 => some (some y, backU ρ own ρ4) else some (none, backU ρ own ρ3) := rfl
  rw [h]
  simp only [uE_eq, uI_eq, uC_eq, cE]
theorem bd_mk {α β : Type} {a : α} {ρ : Env} {f : α → Env → Option β} : bd (some (a, ρ)) f = f a ρ := rfl
theorem sq_nx {ρ : Env} {f : Env → Option Rs} : sq (some (.nx ρ)) f = f ρ := rfl
theorem sq_rt {v : U} {ρ : Env} {f : Env → Option Rs} : sq (some (.rt v ρ)) f = some (.rt v ρ) := rfl
theorem sq_bk {ρ : Env} {f : Env → Option Rs} : sq (some (.bk ρ)) f = some (.bk ρ) := rfl
theorem sq_ct {ρ : Env} {f : Env → Option Rs} : sq (some (.ct ρ)) f = some (.ct ρ) := rfl
end
/-! ## what is asked behind a row of statements -/
structure Po where
  nx : Env → Prop
  rt : U → Env → Prop
  bk : Env → Prop
  ct : Env → Prop
def Bd (p : Po) : Option Rs → Prop
  | some (.nx ρ) => p.nx ρ
  | some (.rt v ρ) => p.rt v ρ
  | some (.bk ρ) => p.bk ρ
  | some (.ct ρ) => p.ct ρ
  | none => False
def Po.aft (p : Po) (C : Cv) (r : List St) : Po := ⟨fun ρ => Bd p (uSs C r ρ), p.rt, p.bk, p.ct⟩
def Po.lp (p : Po) (J : Env → Prop) : Po := ⟨J, p.rt, p.nx, J⟩
def Po.val (v : U) : Po := ⟨fun _ => v = .non, fun w _ => w = v, fun _ => False, fun _ => False⟩
def Po.ex (cl : List Pc) (Q : U → Env → Prop) : Po := ⟨fun ρ => ∃ fin, finR cl ρ = some fin ∧ Q .non ρ, fun w ρ => ∃ fin, finR cl ρ = some fin ∧ Q w ρ, fun _ => False, fun _ => False⟩
def Bdb (p : Po) (C : Cv) (a b : List St) : Option (Bool × Env) → Prop
  | some (true, ρ) => Bd p (uSs C a ρ)
  | some (false, ρ) => Bd p (uSs C b ρ)
  | none => False
def Bdt (p : Po) (C : Cv) (body : List St) : Option Env → Prop
  | some ρ => Bd p (uSs C body ρ)
  | none => False
section
variable {p : Po} {C : Cv} {r a b body : List St} {ρ : Env} {v w : U} {J : Env → Prop} {cl : List Pc} {Q : U → Env → Prop}
theorem Bd_nx : Bd p (some (.nx ρ)) = p.nx ρ := by simp only [Bd]
theorem Bd_rt : Bd p (some (.rt v ρ)) = p.rt v ρ := by simp only [Bd]
theorem Bd_bk : Bd p (some (.bk ρ)) = p.bk ρ := by simp only [Bd]
theorem Bd_ct : Bd p (some (.ct ρ)) = p.ct ρ := by simp only [Bd]
theorem aft_nx : (p.aft C r).nx ρ = Bd p (uSs C r ρ) := by simp only [Po.aft]
theorem aft_rt : (p.aft C r).rt v ρ = p.rt v ρ := by simp only [Po.aft]
theorem aft_bk : (p.aft C r).bk ρ = p.bk ρ := by simp only [Po.aft]
theorem aft_ct : (p.aft C r).ct ρ = p.ct ρ := by simp only [Po.aft]
theorem lp_nx : (p.lp J).nx ρ = J ρ := by simp only [Po.lp]
theorem lp_rt : (p.lp J).rt v ρ = p.rt v ρ := by simp only [Po.lp]
theorem lp_bk : (p.lp J).bk ρ = p.nx ρ := by simp only [Po.lp]
theorem lp_ct : (p.lp J).ct ρ = J ρ := by simp only [Po.lp]
theorem val_rt : (Po.val v).rt w ρ = (w = v) := by simp only [Po.val]
theorem val_nx : (Po.val v).nx ρ = (v = .non) := by simp only [Po.val]
theorem ex_rt : (Po.ex cl Q).rt w ρ = ∃ fin, finR cl ρ = some fin ∧ Q w ρ := by simp only [Po.ex]
theorem ex_nx : (Po.ex cl Q).nx ρ = ∃ fin, finR cl ρ = some fin ∧ Q .non ρ := by simp only [Po.ex]
theorem Bdb_T : Bdb p C a b (some (true, ρ)) = Bd p (uSs C a ρ) := by simp only [Bdb]
theorem Bdb_F : Bdb p C a b (some (false, ρ)) = Bd p (uSs C b ρ) := by simp only [Bdb]
theorem Bdt_mk : Bdt p C body (some ρ) = Bd p (uSs C body ρ) := by simp only [Bdt]
theorem Bd_nil : Bd p (uSs C [] ρ) = p.nx ρ := by rw [us_nil, Bd_nx]
theorem Bd_cons {st : St} : Bd p (uSs C (st :: r) ρ) = Bd (p.aft C r) (uS C st ρ) := by
  rw [us_cons]
  cases uS C st ρ with
  | none => simp only [sq, Bd]
  | some R => cases R <;> simp only [sq, Bd, Po.aft]
theorem Bd_ife {c : E} : Bd p (uS C (.ife c a b) ρ) = Bdb p C a b (uT C c ρ) := by
  rw [us_ife]
  cases uT C c ρ with
  | none => simp only [bd, Bd, Bdb]
  | some q =>
    obtain ⟨t, ρ1⟩ := q
    cases t
    · simp only [bd, Bdb]; rw [if_neg (by simp)]
    · simp only [bd, Bdb]; rw [if_pos trivial]
theorem Bd.imp {p' : Po} {R : Option Rs} (h : Bd p R) (h1 : ∀ ρ, p.nx ρ → p'.nx ρ) (h2 : ∀ v ρ, p.rt v ρ → p'.rt v ρ) (h3 : ∀ ρ, p.bk ρ → p'.bk ρ) (h4 : ∀ ρ, p.ct ρ → p'.ct ρ) : Bd p' R := by
  match R, h with
  | some (.nx ρ), h => exact h1 ρ h
  | some (.rt v ρ), h => exact h2 v ρ h
  | some (.bk ρ), h => exact h3 ρ h
  | some (.ct ρ), h => exact h4 ρ h
  | none, h => exact h
theorem forU_ind {turn : U → Env → Option Rs} (I : Nat → Env → Prop) : ∀ {xs : List U} {ρ : Env}, I 0 ρ → (∀ i x ρ, xs[i]? = some x → I i ρ → Bd (p.lp (I (i + 1))) (turn x ρ)) → (∀ ρ, I xs.length ρ → p.nx ρ) → Bd p (forU turn xs ρ) := by
  intro xs
  induction xs generalizing I with
  | nil => intro ρ h0 hs he; exact he ρ h0
  | cons x xs ih =>
    intro ρ h0 hs he
    have h1 := hs 0 x ρ rfl h0
    unfold forU
    have next : ∀ ρ', I 1 ρ' → Bd p (forU turn xs ρ') := fun ρ' h => ih (fun i => I (i + 1)) h (fun i y ρ e h => hs (i + 1) y ρ (by simpa using e) h) he
    match hR : turn x ρ, h1 with
    | some (.nx ρ'), h1 => exact next ρ' h1
    | some (.ct ρ'), h1 => exact next ρ' h1
    | some (.bk ρ'), h1 => exact h1
    | some (.rt v ρ'), h1 => exact h1
theorem Bdt_eq {tg : Tg} {x : U} : Bdt p C body (utg tg x ρ) = Bd p ((utg tg x ρ).bind fun ρ2 => uSs C body ρ2) := by
  cases utg tg x ρ <;> simp only [Bdt, Option.bind_none, Option.bind_some, Bd]
/-- a loop by an invariant -/
theorem bd_for {tg : Tg} {it : E} {xs : List U} {ρ1 : Env} (hI : uI C it ρ = some ⟨none, xs, ρ1⟩) (I : Nat → Env → Prop) (h0 : I 0 ρ1) (hs : ∀ i x ρ, xs[i]? = some x → I i ρ → Bdt (p.lp (I (i + 1))) C body (utg tg x ρ)) (he : ∀ ρ, I xs.length ρ → p.nx ρ) : Bd p (uS C (.for tg it body) ρ) := by
  rw [us_for, hI]
  simp only [Option.bind_some, lockO]
  have h := forU_ind (p := ⟨p.nx, p.rt, fun _ => False, fun _ => False⟩) (turn := fun x ρ => (utg tg x ρ).bind fun ρ2 => uSs C body ρ2) I h0 (fun i x ρ e h => by rw [← Bdt_eq]; exact hs i x ρ e h) he
  generalize forU (fun x ρ => (utg tg x ρ).bind fun ρ2 => uSs C body ρ2) xs ρ1 = R at h ⊢
  match R, h with
  | some (.nx ρ), h => exact h
  | some (.rt v ρ), h => exact h
/-- a loop over the items of a list that is one's own -/
theorem bd_forL {tg : Tg} {it : E} {xs : List U} {ρ1 : Env} {lk : Option Nat} (hI : uI C it ρ = some ⟨lk, xs, ρ1⟩) (I : Nat → Env → Prop) (h0 : I 0 (lockO lk ρ1)) (hs : ∀ i x ρ, xs[i]? = some x → I i ρ → Bdt ⟨I (i + 1), fun v ρ => ∃ ρ', unlockO lk ρ1 ρ = some ρ' ∧ p.rt v ρ', fun ρ => ∃ ρ', unlockO lk ρ1 ρ = some ρ' ∧ p.nx ρ', I (i + 1)⟩ C body (utg tg x ρ)) (he : ∀ ρ, I xs.length ρ → ∃ ρ', unlockO lk ρ1 ρ = some ρ' ∧ p.nx ρ') : Bd p (uS C (.for tg it body) ρ) := by
  rw [us_for, hI]
  simp only [Option.bind_some]
  have h := forU_ind (p := ⟨fun ρ => ∃ ρ', unlockO lk ρ1 ρ = some ρ' ∧ p.nx ρ', fun v ρ => ∃ ρ', unlockO lk ρ1 ρ = some ρ' ∧ p.rt v ρ', fun _ => False, fun _ => False⟩) (turn := fun x ρ => (utg tg x ρ).bind fun ρ2 => uSs C body ρ2) I h0 (fun i x ρ e h => by rw [← Bdt_eq]; exact hs i x ρ e h) he
  generalize forU (fun x ρ => (utg tg x ρ).bind fun ρ2 => uSs C body ρ2) xs (lockO lk ρ1) = R at h ⊢
  match R, h with
  | some (.nx ρ), ⟨ρ', h1, h2⟩ => simp only [unRs, h1, Option.map_some]; exact h2
  | some (.rt v ρ), ⟨ρ', h1, h2⟩ => simp only [unRs, h1, Option.map_some]; exact h2
theorem whileU_ind {test : Env → Option (Bool × Env)} {bodyF : Env → Option Rs} (I : Nat → Env → Prop) (hs : ∀ m ρ, I m ρ → ∃ b ρ1, test ρ = some (b, ρ1) ∧ if b = true then Bd (p.lp fun ρ' => ∃ m', m' < m ∧ I m' ρ') (bodyF ρ1) else p.nx ρ1) : ∀ {n m : Nat} {ρ : Env}, m < n → I m ρ → Bd p (whileU test bodyF n ρ) := by
  intro n
  induction n with
  | zero => intro m ρ h; omega
  | succ n ih =>
    intro m ρ hm hI
    obtain ⟨b, ρ1, e1, h⟩ := hs m ρ hI
    unfold whileU
    rw [e1, bd_mk]
    cases b
    · rw [if_neg (by simp)] at h ⊢; exact h
    · rw [if_pos rfl] at h ⊢
      match hR : bodyF ρ1, h with
      | some (.nx ρ'), ⟨m', l, h⟩ => exact ih (by omega) h
      | some (.ct ρ'), ⟨m', l, h⟩ => exact ih (by omega) h
      | some (.bk ρ'), h => exact h
      | some (.rt v ρ'), h => exact h
/-- a while by a measure -/
theorem bd_while {c : E} {m : Nat} (I : Nat → Env → Prop) (h0 : I m ρ) (hm : m < 100000) (hs : ∀ m ρ, I m ρ → ∃ b ρ1, uT C c ρ = some (b, ρ1) ∧ (b = true → Bd (p.lp fun ρ' => ∃ m', m' < m ∧ I m' ρ') (uSs C body ρ1)) ∧ (b = false → p.nx ρ1)) : Bd p (uS C (.while c body) ρ) := by
  rw [us_while]
  refine whileU_ind I (fun m ρ h => ?_) hm h0
  obtain ⟨b, ρ1, e, h1, h2⟩ := hs m ρ h
  refine ⟨b, ρ1, e, ?_⟩
  cases b
  · rw [if_neg (by simp)]; exact h2 rfl
  · rw [if_pos rfl]; exact h1 rfl
end
/-! ## comprehensions -/
theorem compU_of {turn : U → Env → Option (Option U × Env)} {ρ : Env} {g : U → Option U} : ∀ {xs : List U}, (∀ x ∈ xs, turn x ρ = some (g x, ρ)) → compU turn xs ρ = some (xs.filterMap g, ρ)
  | [], _ => rfl
  | x :: xs, h => by
    unfold compU
    rw [h x (by simp), bd_mk, compU_of fun y hy => h y (by simp [hy]), bd_mk, List.filterMap_cons]
    cases g x <;> rfl
theorem u_comp {C : Cv} {ρ ρ1 : Env} {el it : E} {tg own : List Nat} {tup : Bool} {cond : Option E} {xs : List U} (hI : uI C it ρ = some ⟨none, xs, ρ1⟩) (hl : xs.length ≤ lim) (g : U → Option U) (h : ∀ x ∈ xs, cturn C el tg tup cond own x ρ1 = some (g x, ρ1)) : uE C (.comp el tg tup it cond own) ρ = some (.lst (xs.filterMap g), ρ1) := by
  rw [u_compE, hI]
  simp only [Option.bind_some, lockO]
  rw [if_pos hl, compU_of h]
  rfl
/-- over things that are told as values -/
theorem u_compM {α β : Type} {C : Cv} {ρ ρ1 : Env} {el it : E} {tg own : List Nat} {tup : Bool} {cond : Option E} {xs : List α} {enc : α → U} {enc' : β → U} (hI : uI C it ρ = some ⟨none, xs.map enc, ρ1⟩) (hl : xs.length ≤ lim) (g : α → Option β) (h : ∀ x ∈ xs, cturn C el tg tup cond own (enc x) ρ1 = some ((g x).map enc', ρ1)) : uE C (.comp el tg tup it cond own) ρ = some (.lst ((xs.filterMap g).map enc'), ρ1) := by
  rw [u_compE, hI]
  simp only [Option.bind_some, lockO]
  rw [if_pos (by simpa using hl)]
  have key : ∀ {xs : List α}, (∀ x ∈ xs, cturn C el tg tup cond own (enc x) ρ1 = some ((g x).map enc', ρ1)) → compU (cturn C el tg tup cond own) (xs.map enc) ρ1 = some ((xs.filterMap g).map enc', ρ1) := by
    intro xs
    induction xs with
    | nil => intro _; rfl
    | cons x xs ih =>
      intro h
      rw [List.map_cons]
      unfold compU
      rw [h x (by simp), bd_mk, ih fun y hy => h y (by simp [hy]), bd_mk, List.filterMap_cons]
      cases g x <;> rfl
  rw [key h]
  rfl
/-! ## defs -/
section
variable {P : Prog} {Γ : Cls} {k i : Nat} {args : List U} {f : Fn} {cl : List Pc} {v : U}
theorem fin_none {cl : List Pc} {ρ : Env} (h : cl.contains .ref = false) : finR cl ρ = some [] := by unfold finR; rw [if_neg (by rw [h]; simp)]
/-- something is known of what comes back -/
theorem uF_ex {Q : U → Env → Prop} (hf : P[i]? = some f) (hc : Γ[i]? = some cl) (hl : args.length = f.np ∧ cl.length = f.np ∧ refsC cl args = true)
    (h : Bd (Po.ex cl Q) (uSs (uF P Γ k) f.body (startU f cl args))) : ∃ v fin ρ, uF P Γ (k + 1) i args = some (v, fin) ∧ finR cl ρ = some fin ∧ Q v ρ := by
  rw [uF_eq, uSs_eq] at *
  simp only [cF, hf, hc]
  rw [if_pos hl]
  generalize cSs (cF P Γ k) f.body (startU f cl args) = R at h
  match R, h with
  | some (.nx ρ), ⟨fin, h1, h2⟩ => exact ⟨.non, fin, ρ, by simp only [endU, h1, Option.map_some], h1, h2⟩
  | some (.rt w ρ), ⟨fin, h1, h2⟩ => exact ⟨w, fin, ρ, by simp only [endU, h1, Option.map_some], h1, h2⟩
/-- a def that changes nothing of what it is handed -/
theorem uF_val (hf : P[i]? = some f) (hc : Γ[i]? = some cl) (hl : args.length = f.np ∧ cl.length = f.np ∧ refsC cl args = true) (hr : cl.contains .ref = false)
    (h : Bd (Po.val v) (uSs (uF P Γ k) f.body (startU f cl args))) : uF P Γ (k + 1) i args = some (v, []) := by
  obtain ⟨w, fin, ρ, h1, h2, h3⟩ := uF_ex (Q := fun w _ => w = v) hf hc hl (h.imp (fun ρ h => ⟨[], fin_none hr, h.symm⟩) (fun w ρ h => ⟨[], fin_none hr, h⟩) (fun _ h => h) fun _ h => h)
  rw [fin_none hr] at h2
  cases h2
  rw [h1, h3]
end
end PL
namespace PL
open PySem PySem.W PySem.SeqAt
/-! ## the primitives, one by one -/
section
variable {i j : Int} {xs ys : List U} {x y : U} {a b : Str}
theorem ubin_addI : ubin .add (.int i) (.int j) = some (.int (i + j)) := rfl
theorem ubin_subI : ubin .sub (.int i) (.int j) = some (.int (i - j)) := rfl
theorem ubin_mulI (h : (-18446744073709551616 < i ∧ i < 18446744073709551616) ∨ (-18446744073709551616 < j ∧ j < 18446744073709551616)) : ubin .mul (.int i) (.int j) = some (.int (i * j)) := by
  simp only [ubin]
  rw [if_pos]
  rcases h with h | h
  · exact .inl ⟨by omega, by omega⟩
  · exact .inr ⟨by omega, by omega⟩
theorem ubin_fdivI (h : 0 < j ∧ j < 1073741824) : ubin .fdiv (.int i) (.int j) = some (.int (i / j)) := by simp only [ubin]; rw [if_pos h]
theorem ubin_modI (h : 0 < j) : ubin .mod (.int i) (.int j) = some (.int (i % j)) := by simp only [ubin]; rw [if_pos h]
theorem ubin_addT (h : xs.length + ys.length ≤ 16777216) : ubin .add (.tup xs) (.tup ys) = some (.tup (xs ++ ys)) := by simp only [ubin]; rw [if_pos h]
theorem ubin_addL (h : xs.length + ys.length ≤ 16777216) : ubin .add (.lst xs) (.lst ys) = some (.lst (xs ++ ys)) := by simp only [ubin]; rw [if_pos h]
theorem ucm_ltI : ucm .lt (.int i) (.int j) = some (decide (i < j)) := rfl
theorem ucm_leI : ucm .le (.int i) (.int j) = some (decide (i ≤ j)) := rfl
theorem ucm_gtI : ucm .gt (.int i) (.int j) = some (decide (j < i)) := rfl
theorem ucm_geI : ucm .ge (.int i) (.int j) = some (decide (j ≤ i)) := rfl
theorem ubi_lenT : ubi .len [.tup xs] = some (.int xs.length) := rfl
theorem ubi_lenL : ubi .len [.lst xs] = some (.int xs.length) := rfl
theorem ubi_lenR : ubi .len [.rol xs] = some (.int xs.length) := rfl
theorem ubi_lenD {kvs : List (U × U)} : ubi .len [.dic kvs] = some (.int kvs.length) := rfl
theorem ubi_absI : ubi .abs [.int i] = some (.int (if i < 0 then -i else i)) := rfl
theorem ubi_intI : ubi .int [.int i] = some (.int i) := rfl
theorem ubi_maxI : ubi .max [.int i, .int j] = some (.int (if j > i then j else i)) := rfl
theorem ubi_minI : ubi .min [.int i, .int j] = some (.int (if j < i then j else i)) := rfl
theorem ubi_list : ubi .list [x] = (itemsU x).map .lst := rfl
theorem ubi_tuple : ubi .tuple [x] = (itemsU x).map .tup := rfl
theorem uaug_addI : uaug .add (.int i) (.int j) = some (.int (i + j)) := rfl
theorem uaug_subI : uaug .sub (.int i) (.int j) = some (.int (i - j)) := rfl
theorem rngU1 (h : -4611686018427387904 ≤ j ∧ j < 4611686018427387904) : rngU [.int j] = some (0, j.toNat, 1) := by
  simp only [rngU]; rw [if_pos ⟨by omega, by omega⟩]
theorem rngU2 (h : -4611686018427387904 ≤ i ∧ i < 4611686018427387904 ∧ -4611686018427387904 ≤ j ∧ j < 4611686018427387904) : rngU [.int i, .int j] = some (i, (j - i).toNat, 1) := by
  simp only [rngU]; rw [if_pos ⟨by omega, by omega, by omega, by omega⟩]
theorem rangeU_len {lo c : Int} {n : Nat} : (rangeU lo n c).length = n := by simp [rangeU]
theorem rangeU_at {lo c : Int} {n k : Nat} {x : U} (h : (rangeU lo n c)[k]? = some x) : k < n ∧ x = .int (lo + (k : Int) * c) := by
  unfold rangeU at h
  rw [List.getElem?_map] at h
  obtain ⟨m, e, rfl⟩ := Option.map_eq_some_iff.mp h
  obtain ⟨h1, h2⟩ := List.getElem?_eq_some_iff.mp e
  simp only [List.length_range] at h1
  rw [List.getElem_range] at h2
  subst h2
  exact ⟨h1, rfl⟩
theorem atU_nat {k : Nat} (h : xs[k]? = some x) : atU xs (k : Int) = some x := by
  unfold atU
  have hk := (List.getElem?_eq_some_iff.mp h).1
  unfold ixOf
  rw [if_pos (by omega), if_pos (by omega)]
  exact h
theorem uix_T {k : Nat} (hi : i = k) (h : xs[k]? = some x) : uix (.tup xs) (.int i) = some x := by subst hi; exact atU_nat h
theorem uix_L {k : Nat} (hi : i = k) (h : xs[k]? = some x) : uix (.lst xs) (.int i) = some x := by subst hi; exact atU_nat h
theorem uix_R {k : Nat} (hi : i = k) (h : xs[k]? = some x) : uix (.rol xs) (.int i) = some x := by subst hi; exact atU_nat h
end
mutual
theorem eqvU_ok : ∀ (n : Nat) (x y : U) (m : Nat), okU n x = true → okU m y = true → PyData.eqv (dU x) (dU y) = decide (x = y)
  | n, .bl _, _, _, h, _ => by cases n <;> simp [okU] at h
  | n, .lst _, _, _, h, _ => by cases n <;> simp [okU] at h
  | n, .rol _, _, _, h, _ => by cases n <;> simp [okU] at h
  | n, .dic _, _, _, h, _ => by cases n <;> simp [okU] at h
  | n, .non, y, m, _, h => by cases y <;> first | (cases m <;> simp [okU] at h; done) | simp [dU, PyData.eqv]
  | n, .int i, y, m, _, h => by
    cases y <;> first | (cases m <;> simp [okU] at h; done) | (simp [dU, PyData.eqv]; done) | (simp only [dU, PyData.eqv, U.int.injEq]; rw [Bool.beq_eq_decide_eq])
  | n, .str i, y, m, _, h => by
    cases y <;> first | (cases m <;> simp [okU] at h; done) | (simp [dU, PyData.eqv]; done) | (simp only [dU, PyData.eqv, U.str.injEq]; rw [Bool.beq_eq_decide_eq])
  | n + 1, .tup xs, y, m, h, h2 => by
    simp only [okU, List.all_eq_true] at h
    cases y with
    | tup ys =>
      cases m with
      | zero => simp [okU] at h2
      | succ m =>
        simp only [okU, List.all_eq_true] at h2
        simp only [dU, PyData.eqv, U.tup.injEq]
        exact eqvsU_ok n xs ys m h h2
    | bl _ => cases m <;> simp [okU] at h2
    | lst _ => cases m <;> simp [okU] at h2
    | rol _ => cases m <;> simp [okU] at h2
    | dic _ => cases m <;> simp [okU] at h2
    | _ => simp [dU, PyData.eqv]
  | 0, .tup xs, _, _, h, _ => by simp [okU] at h
theorem eqvsU_ok : ∀ (n : Nat) (xs ys : List U) (m : Nat), (∀ x ∈ xs, okU n x = true) → (∀ y ∈ ys, okU m y = true) → PyData.eqvAll (dUs xs) (dUs ys) = decide (xs = ys)
  | n, [], [], _, _, _ => by simp [dUs, PyData.eqvAll]
  | n, [], _ :: _, _, _, _ => by simp [dUs, PyData.eqvAll]
  | n, _ :: _, [], _, _, _ => by simp [dUs, PyData.eqvAll]
  | n, x :: xs, y :: ys, m, h, h2 => by
    simp only [dUs, PyData.eqvAll]
    rw [eqvU_ok n x y m (h x (by simp)) (h2 y (by simp)), eqvsU_ok n xs ys m (fun z hz => h z (by simp [hz])) (fun z hz => h2 z (by simp [hz]))]
    rw [Bool.eq_iff_iff]
    simp
end
section
variable {i j : Int} {xs ys : List U} {x y : U} {a b : Str}
theorem eqU_ok (n : Nat) (hx : okU n x = true) (hy : okU n y = true) (hn : n ≤ 50) : eqU x y = some (decide (x = y)) := by
  unfold eqU
  rw [datU_ok n x 60 hx (by omega), datU_ok n y 60 hy (by omega)]
  simp only [Option.bind_some, Option.map_some]
  rw [eqvU_ok n x y n hx hy]
theorem ucm_eq (n : Nat) (hx : okU n x = true) (hy : okU n y = true) (hn : n ≤ 50) : ucm .eq x y = some (decide (x = y)) := eqU_ok n hx hy hn
theorem ucm_ne (n : Nat) (hx : okU n x = true) (hy : okU n y = true) (hn : n ≤ 50) : ucm .ne x y = some (!decide (x = y)) := by
  show (eqU x y).map not = _
  rw [eqU_ok n hx hy hn]; rfl
theorem ucm_eqI : ucm .eq (.int i) (.int j) = some (decide (i = j)) := by rw [ucm_eq 0 rfl rfl (by omega)]; simp
theorem ucm_neI : ucm .ne (.int i) (.int j) = some (!decide (i = j)) := by rw [ucm_ne 0 rfl rfl (by omega)]; simp
theorem inU_ok (n : Nat) (hx : okU n x = true) (hs : ∀ y ∈ xs, okU n y = true) (hn : n ≤ 50) : inU x xs = some (decide (x ∈ xs)) := by
  unfold inU
  rw [datU_ok n x 60 hx (by omega), datUs_ok (by omega : n ≤ 59) hs]
  simp only [Option.bind_some, Option.map_some]
  congr 1
  induction xs with
  | nil => simp
  | cons y ys ih =>
    rw [List.map_cons, List.any_cons, eqvU_ok n y x n (hs y (by simp)) hx, ih fun z hz => hs z (by simp [hz]), Bool.eq_iff_iff, Bool.or_eq_true, decide_eq_true_iff, decide_eq_true_iff, decide_eq_true_iff, List.mem_cons]
    exact or_congr ⟨Eq.symm, Eq.symm⟩ Iff.rfl
theorem ucm_inT (n : Nat) (hx : okU n x = true) (hs : ∀ y ∈ xs, okU n y = true) (hn : n ≤ 50) : ucm .isin x (.tup xs) = some (decide (x ∈ xs)) := inU_ok n hx hs hn
theorem ucm_inL (n : Nat) (hx : okU n x = true) (hs : ∀ y ∈ xs, okU n y = true) (hn : n ≤ 50) : ucm .isin x (.lst xs) = some (decide (x ∈ xs)) := inU_ok n hx hs hn
theorem ucm_niT (n : Nat) (hx : okU n x = true) (hs : ∀ y ∈ xs, okU n y = true) (hn : n ≤ 50) : ucm .notin x (.tup xs) = some (!decide (x ∈ xs)) := by
  show (inU x xs).map not = _
  rw [inU_ok n hx hs hn]; rfl
theorem ucm_niL (n : Nat) (hx : okU n x = true) (hs : ∀ y ∈ xs, okU n y = true) (hn : n ≤ 50) : ucm .notin x (.lst xs) = some (!decide (x ∈ xs)) := by
  show (inU x xs).map not = _
  rw [inU_ok n hx hs hn]; rfl
end
end PL
namespace PL
open PySem
theorem isC_L {xs : List U} : isC (.lst xs) = true := rfl
theorem isC_D {xs : List (U × U)} : isC (.dic xs) = true := rfl
theorem ite_T {α : Type} {a b : α} : (if true = true then a else b) = a := rfl
theorem ite_F {α : Type} {a b : α} : (if false = true then a else b) = b := rfl
end PL
end

section
set_option Elab.async false
set_option linter.all false
set_option maxRecDepth 100000
set_option maxHeartbeats 0
namespace VL
open PySem PySem.W PySem.SeqAt
open PL hiding St
abbrev Env := PL.Env

local macro_rules | `(tactic| rotate_right) => `(tactic| simp -implicitDefEqProofs (disch := omega) only [Bd_cons, Bd_nil, Bd_ife, Bdb_T, Bdb_F, Bdt_mk, aft_nx, aft_rt, aft_bk, aft_ct, lp_nx, lp_rt, lp_bk, lp_ct, val_rt, val_nx, ex_rt, ex_nx, us_asg, us_asgO, us_asgS, us_asgT, us_aug, us_augS, us_ret, us_retN, us_expr, us_pass, us_brk, us_cont, u_var, u_own, u_mv, u_int, u_str, u_bl, u_non, u_tup, u_lst, u_dic, u_bin, u_neg, u_not, u_and, u_or, u_ife, u_cmp, u_chain, u_isN, u_call, u_bi, u_mt, u_ix, u_sl, u_nil, u_cons, u_oN, u_oS, u_cN, u_cS, u_and1, u_and2, u_or1, u_or2,
  ut_not, ut_and, ut_or, ut_ife, ut_isN, ut_chain, ut_cmp, ut_val, ut_and1, ut_and2, ut_or1, ut_or2, bd_mk, Bd_nx, Bd_rt, Bd_bk, Bd_ct, rdV, rdO, mvO, stV, stO, wrO, wrE, wrs, rdA, rdAs, afterMt, recvU, isC_L, isC_D, utg, utgs, uInt, uBl, negU, isNU, truU,
  ubin_addI, ubin_subI, ubin_mulI, ubin_fdivI, ubin_modI, ubin_addT, ubin_addL, ucm_ltI, ucm_leI, ucm_gtI, ucm_geI, ubi_lenT, ubi_lenL, ubi_lenR, ubi_lenD, ubi_absI, ubi_intI, ubi_maxI, ubi_minI, ubi_list, ubi_tuple, itemsU, uaug_addI, uaug_subI,
  Option.bind_some, Option.map_some, ite_T, ite_F, List.getD_cons_zero, List.getD_cons_succ, List.set_cons_zero, List.set_cons_succ, List.zipWith_cons_cons, List.zipWith_nil_left, List.zipWith, inS, startU, List.map_cons, List.map_nil, List.length_cons, List.length_nil, Nat.reduceAdd, Nat.reduceSub, List.replicate, List.cons_append, List.nil_append, if_true, if_false, Bool.false_eq_true, reduceIte, Bool.not_true, Bool.not_false])
/-! ## what the laws share, over values: the draws, the next draw, alike -/
def fDraws : Fn := ⟨2, 8,
  [
    .asg (.own 2) (.lst []),
    .asg (.name 3) (.int 7),
    .for (.name 4) (.rng [(.bi .len [(.var 0)])])
      [
        .asg (.name 5) (.bi .abs [(.bi .int [(.ix (.var 0) (.var 4))])]),
        .asg (.name 3) (.bin .mod (.bi .int [(.bin .add (.bin .add (.bin .mul (.var 3) (.int 48271)) (.bin .mod (.var 5) (.int 1000003))) (.var 4))]) (.int 65537)),
        .asg (.name 6) (.int 0),
        .ife (.cmp .ge (.var 5) (.bin .pow (.int 10) (.int 18)))
          [
            .asg (.name 6) (.var 5)]
          [
            .expr (.mt .append (.own 2) [(.bin .mod (.bi .int [(.var 5)]) (.int 997))]),
            .expr (.mt .append (.own 2) [(.bin .mod (.bin .mod (.bi .int [(.bin .add (.bin .mul (.var 3) (.int 69621)) (.int 5))]) (.int 65521)) (.int 997))])],
        .for (.name 7) (.rng [(.int 60)])
          [
            .ife (.cmp .gt (.var 6) (.int 0))
              [
                .expr (.mt .append (.own 2) [(.bin .mod (.bi .int [(.var 6)]) (.int 997))]),
                .asg (.name 6) (.bin .fdiv (.var 6) (.int 997))]
              []]],
    .for (.name 4) (.rng [(.var 1)])
      [
        .asg (.name 3) (.bin .mod (.bi .int [(.bin .add (.bin .add (.bin .mul (.var 3) (.int 16807)) (.var 4)) (.int 1))]) (.int 65537)),
        .expr (.mt .append (.own 2) [(.bin .mod (.bi .int [(.var 3)]) (.int 997))])],
    .ret (.sl (.own 2) none (some (.var 1)))]⟩
/-- the draws: whole numbers from 0 -/
def Dr (xs : List U) : Prop := ∀ x ∈ xs, ∃ n : Nat, n < 997 ∧ x = .int n
theorem Dr.snoc {xs : List U} (h : Dr xs) (i : Int) : Dr (xs ++ [.int (i % 997)]) := fun x hx => by
  rcases List.mem_append.mp hx with hx | hx
  · exact h x hx
  · simp only [List.mem_singleton] at hx
    exact ⟨(i % 997).toNat, by omega, by rw [hx]; congr 1; omega⟩
theorem umt_app {xs : List U} {x : U} (h : xs.length < 16777216) : umt .append (.lst xs) [x] = some (.non, some (.lst (xs ++ [x]))) := by
  simp only [umt]; rw [if_pos h]
theorem usl_L {xs : List U} {lo hi : Option Int} : usl (.lst xs) lo hi = some (.lst (cutD xs lo hi)) := rfl
theorem usl_T {xs : List U} {lo hi : Option Int} : usl (.tup xs) lo hi = some (.tup (cutD xs lo hi)) := rfl
theorem sp_draws {P : Prog} {Γ : Cls} {j k many : Nat} {ns : List Int} (hP : P[j]? = some fDraws) (hΓ : Γ[j]? = some [.val, .val]) (hk : 1 ≤ k) (hl : ns.length ≤ 63) (hm : many ≤ 1000) :
    ∃ xs, uF P Γ k j [.rol (ns.map U.int), .int many] = some (.lst xs, []) ∧ Dr xs ∧ xs.length ≤ many := by
  obtain ⟨k, rfl⟩ : ∃ k', k = k' + 1 := ⟨k - 1, by omega⟩
  suffices h : ∃ v fin ρ, uF P Γ (k + 1) j [.rol (ns.map U.int), .int many] = some (v, fin) ∧ finR [.val, .val] ρ = some fin ∧ ∃ xs, v = .lst xs ∧ Dr xs ∧ xs.length ≤ many by
    obtain ⟨v, fin, ρ, h1, h2, xs, rfl, h3, h4⟩ := h
    rw [fin_none rfl] at h2
    cases h2
    exact ⟨xs, h1, h3, h4⟩
  refine uF_ex hP hΓ ⟨rfl, rfl, by rfl⟩ ?_
  unfold fDraws
  rotate_right
  refine (bd_for (xs := rangeU 0 ns.length 1) (by
    simp only [ui_rng]
    rotate_right
    rw [rngU1 (by simp; omega)]; simp) (fun i ρ => ∃ (xs : List U) (mixed : Int) (v4 v5 v6 v7 : Option U), Dr xs ∧ xs.length ≤ 62 * i ∧ 0 ≤ mixed ∧ mixed < 65537 ∧ ρ = [.val (some (.rol (ns.map U.int))), .val (some (.int many)), .own (.lst xs), .val (some (.int mixed)), .val v4, .val v5, .val v6, .val v7])
    ⟨[], 7, none, none, none, none, fun x hx => absurd hx (by simp), by simp, by omega, by omega, rfl⟩ ?_ ?_)
  · rintro i x ρ hx ⟨xs, mixed, v4, v5, v6, v7, dr, hxl, m0, m1, rfl⟩
    obtain ⟨hi, rfl⟩ := rangeU_at hx
    rotate_right
    rw [uix_R (k := i) (x := .int ns[i]) (by omega) (by rw [List.getElem?_map, List.getElem?_eq_getElem hi]; rfl)]
    rotate_right
    generalize hcell : (if ns[i] < 0 then -ns[i] else ns[i]) = cell
    have hc0 : 0 ≤ cell := by rw [← hcell]; split <;> omega
    generalize hmix : (mixed * 48271 + cell % 1000003 + (0 + (i : Int) * 1)) % 65537 = mx
    have hmx : 0 ≤ mx ∧ mx < 65537 := by rw [← hmix]; omega
    rw [show ubin .pow (.int 10) (.int 18) = some (.int (10 ^ 18)) from by simp only [ubin]; rw [if_pos ⟨by omega, by omega, by decide⟩]; rfl]
    rotate_right
    -- the loop over the rest
    have rest : ∀ (ys : List U) (r : Int) (u7 : Option U) (p : Po), Dr ys → ys.length ≤ 62 * i + 2 → 0 ≤ r →
        (∀ (xs : List U) (v6 v7 : Option U), Dr xs → xs.length ≤ 62 * (i + 1) → p.nx [.val (some (.rol (ns.map U.int))), .val (some (.int many)), .own (.lst xs), .val (some (.int mx)), .val (some (.int (0 + (i : Int) * 1))), .val (some (.int cell)), .val v6, .val v7]) →
        Bd p (uS (uF P Γ k) (.for (.name 7) (.rng [(.int 60)]) [.ife (.cmp .gt (.var 6) (.int 0)) [.expr (.mt .append (.own 2) [(.bin .mod (.bi .int [(.var 6)]) (.int 997))]), .asg (.name 6) (.bin .fdiv (.var 6) (.int 997))] []])
          [.val (some (.rol (ns.map U.int))), .val (some (.int many)), .own (.lst ys), .val (some (.int mx)), .val (some (.int (0 + (i : Int) * 1))), .val (some (.int cell)), .val (some (.int r)), .val u7]) := by
      intro ys r u7 p dy hy hr hK
      refine bd_for (xs := rangeU 0 60 1) (by
        simp only [ui_rng]
        rotate_right
        rw [rngU1 (by omega)]; rfl) (fun i2 ρ => ∃ (xs : List U) (r : Int) (v7 : Option U), Dr xs ∧ 0 ≤ r ∧ xs.length ≤ 62 * i + 2 + i2 ∧ ρ = [.val (some (.rol (ns.map U.int))), .val (some (.int many)), .own (.lst xs), .val (some (.int mx)), .val (some (.int (0 + (i : Int) * 1))), .val (some (.int cell)), .val (some (.int r)), .val v7])
        ⟨ys, r, u7, dy, hr, by omega, rfl⟩ ?_ ?_
      · rintro i2 x ρ hx ⟨xs, r, v7, dr, hr, h1, rfl⟩
        obtain ⟨hi2, rfl⟩ := rangeU_at hx
        rotate_right
        by_cases hz : (0 : Int) < r
        · rw [decide_eq_true hz]
          rotate_right
          rw [umt_app (by omega)]
          rotate_right
          exact ⟨_, _, _, dr.snoc r, by omega, by simp; omega, rfl⟩
        · rw [decide_eq_false hz]
          rotate_right
          exact ⟨_, _, _, dr, hr, by omega, rfl⟩
      · rintro ρ ⟨xs, r, v7, dr, hr, h1, rfl⟩
        rw [rangeU_len] at h1
        exact hK _ _ _ dr (by omega)
    by_cases hb : (10 : Int) ^ 18 ≤ cell
    · rw [decide_eq_true hb]
      rotate_right
      refine (rest _ _ _ _ dr (by omega) hc0 fun xs v6 v7 d1 h1 => ?_)
      rotate_right
      exact ⟨_, _, _, _, _, _, d1, h1, hmx.1, hmx.2, rfl⟩
    · rw [decide_eq_false hb]
      rotate_right
      rw [umt_app (by omega)]
      rotate_right
      rw [umt_app (by simp; omega)]
      rotate_right
      refine (rest _ _ _ _ ((dr.snoc _).snoc _) (by simp; omega) (by omega) fun xs v6 v7 d1 h1 => ?_)
      rotate_right
      exact ⟨_, _, _, _, _, _, d1, h1, hmx.1, hmx.2, rfl⟩
  · rintro ρ ⟨xs, mixed, v4, v5, v6, v7, dr, hxl, m0, m1, rfl⟩
    rw [rangeU_len] at hxl
    rotate_right
    refine (bd_for (xs := rangeU 0 many 1) (by
      simp only [ui_rng]
      rotate_right
      rw [rngU1 (by omega)]; simp) (fun i ρ => ∃ (xs : List U) (mixed : Int) (v4 v5 v6 v7 : Option U), Dr xs ∧ xs.length ≤ 62 * 63 + i ∧ 0 ≤ mixed ∧ mixed < 65537 ∧ ρ = [.val (some (.rol (ns.map U.int))), .val (some (.int many)), .own (.lst xs), .val (some (.int mixed)), .val v4, .val v5, .val v6, .val v7])
      ⟨xs, mixed, v4, v5, v6, v7, dr, by omega, m0, m1, rfl⟩ ?_ ?_)
    · rintro i x ρ hx ⟨xs, mixed, v4, v5, v6, v7, dr, hxl, m0, m1, rfl⟩
      obtain ⟨hi, rfl⟩ := rangeU_at hx
      rotate_right
      rw [umt_app (by omega)]
      rotate_right
      exact ⟨_, _, _, _, _, _, dr.snoc _, by simp; omega, by omega, by omega, rfl⟩
    · rintro ρ ⟨xs, mixed, v4, v5, v6, v7, dr, hxl, m0, m1, rfl⟩
      rotate_right
      rw [usl_L]
      rotate_right
      refine ⟨[], rfl, _, rfl, fun x hx => dr x ?_, ?_⟩
      · exact List.mem_of_mem_drop (List.mem_of_mem_take hx)
      · unfold cutD
        rw [List.length_take]
        simp only [cutIx]
        rw [if_neg (by omega)]
        omega
/-! ### the next draw -/
def fNext : Fn := ⟨2, 2,
  [
    .augS (.own 0) (.str "at") .add (.int 1),
    .ife (.cmp .gt (.ix (.own 0) (.str "at")) (.bi .len [(.ix (.own 0) (.str "draws"))]))
      [
        .ret (.int 0)]
      [],
    .ret (.bin .mod (.bi .int [(.ix (.ix (.own 0) (.str "draws")) (.bin .sub (.ix (.own 0) (.str "at")) (.int 1)))]) (.var 1))]⟩
/-- the dict of the draws: so many are drawn -/
def wU (xs : List U) (a : Nat) : U := .dic [(.str "draws", .lst xs), (.str "at", .int a)]
theorem str_ne : ("draws" : Str) ≠ "at" := by decide +kernel
theorem wU_draws {xs : List U} {a : Nat} : uix (wU xs a) (.str "draws") = some (.lst xs) := by
  unfold wU
  simp only [uix, keyU, if_true]
  rw [uget_cons, if_pos (by rw [ubeq_iff])]
theorem wU_at {xs : List U} {a : Nat} : uix (wU xs a) (.str "at") = some (.int a) := by
  unfold wU
  simp only [uix, keyU, if_true]
  rw [uget_cons, if_neg (by rw [ubeq_iff]; intro h; exact str_ne (U.str.inj h)), uget_cons, if_pos (by rw [ubeq_iff])]
theorem wU_put {xs : List U} {a b : Nat} {i : Int} (h : i = b) : uset (wU xs a) (.str "at") (.int i) = some (wU xs b) := by
  subst h
  have h1 : U.beq (.str "draws") (.str "at") = false := by
    rw [Bool.eq_false_iff]; intro h; rw [ubeq_iff] at h; exact str_ne (U.str.inj h)
  have h2 : U.beq (.str "at") (.str "at") = true := by rw [ubeq_iff]
  unfold wU
  simp only [uset, keyU, List.length_cons, List.length_nil]
  rw [if_pos ⟨trivial, by show _ < 16777216; omega⟩]
  unfold uput
  simp [h1, h2]
theorem wU_C {xs : List U} {a : Nat} : isC (wU xs a) = true := rfl
theorem sp_next {P : Prog} {Γ : Cls} {j k m a : Nat} {xs : List U} (hP : P[j]? = some fNext) (hΓ : Γ[j]? = some [.ref, .val]) (hk : 1 ≤ k) (dr : Dr xs) (hl : xs.length ≤ 1000) (hm : 0 < m) :
    ∃ r : Nat, r < m ∧ uF P Γ k j [wU xs a, .int m] = some (.int r, [some (wU xs (a + 1)), none]) := by
  obtain ⟨k, rfl⟩ : ∃ k', k = k' + 1 := ⟨k - 1, by omega⟩
  suffices h : ∃ v fin ρ, uF P Γ (k + 1) j [wU xs a, .int m] = some (v, fin) ∧ finR [.ref, .val] ρ = some fin ∧ ∃ r : Nat, r < m ∧ v = .int r ∧ ρ = [.ref (wU xs (a + 1)), .val (some (.int m))] by
    obtain ⟨v, fin, ρ, h1, h2, r, hr, rfl, rfl⟩ := h
    refine ⟨r, hr, ?_⟩
    rw [h1]
    simp [finR, finU] at h2
    rw [← h2]
  refine uF_ex hP hΓ ⟨rfl, rfl, by rfl⟩ ?_
  unfold fNext
  rotate_right
  rw [wU_C, ite_T, wU_at]
  rotate_right
  rw [wU_put (b := a + 1) (by push_cast; rfl)]
  rotate_right
  rw [wU_at]
  rotate_right
  rw [wU_draws]
  rotate_right
  have fin : finR [Pc.ref, Pc.val] [Sl.ref (wU xs (a + 1)), .val (some (.int m))] = some [some (wU xs (a + 1)), none] := rfl
  by_cases hz : (xs.length : Int) < ((a + 1 : Nat) : Int)
  · rw [decide_eq_true hz]
    rotate_right
    exact ⟨_, fin, 0, hm, rfl, trivial⟩
  · rw [decide_eq_false hz]
    rotate_right
    rw [wU_draws]
    rotate_right
    rw [wU_at]
    rotate_right
    have ha : a < xs.length := by omega
    obtain ⟨n, hn, e⟩ := dr xs[a] (List.getElem_mem ha)
    rw [uix_L (k := a) (x := .int n) (by omega) (by rw [List.getElem?_eq_getElem ha, e])]
    rotate_right
    exact ⟨_, fin, n % m, Nat.mod_lt _ hm, by push_cast; rfl, trivial⟩
end VL
end

section
set_option Elab.async false
set_option linter.all false
set_option maxRecDepth 100000
set_option maxHeartbeats 0
namespace VL
open PySem PySem.W PySem.SeqAt
open PL hiding St

section
variable {C : Cv}
theorem compU_ind {turn : U → Env → Option (Option U × Env)} (I : Nat → List U → Env → Prop) : ∀ {xs : List U} {n : Nat} {acc : List U} {ρ : Env}, I n acc ρ → (∀ i x out ρ, xs[i]? = some x → I (n + i) out ρ → ∃ o ρ', turn x ρ = some (o, ρ') ∧ I (n + i + 1) (out ++ o.toList) ρ') → ∃ out ρ', compU turn xs ρ = some (out, ρ') ∧ I (n + xs.length) (acc ++ out) ρ'
  | [], n, acc, ρ, h0, _ => ⟨[], ρ, rfl, by simpa using h0⟩
  | x :: xs, n, acc, ρ, h0, hs => by
    obtain ⟨o, ρ1, e1, h1⟩ := hs 0 x acc ρ rfl h0
    obtain ⟨out, ρ2, e2, h2⟩ := compU_ind (turn := turn) I (xs := xs) (n := n + 1) (acc := acc ++ o.toList) h1 (fun i y out ρ e h => by
      have := hs (i + 1) y out ρ (by simpa using e) (by rw [show n + (i + 1) = n + 1 + i by omega]; exact h)
      rw [show n + (i + 1) + 1 = n + 1 + i + 1 by omega] at this
      exact this)
    refine ⟨o.toList ++ out, ρ2, ?_, ?_⟩
    · unfold compU; rw [e1, bd_mk, e2, bd_mk]
    · rw [List.append_assoc] at h2
      rw [List.length_cons, show n + (xs.length + 1) = n + 1 + xs.length by omega]
      exact h2
/-- a comprehension whose turns change what is drawn from -/
theorem u_compR {ρ ρ1 : Env} {el it : E} {tg own : List Nat} {tup : Bool} {cond : Option E} {xs : List U} (hI : uI C it ρ = some ⟨none, xs, ρ1⟩) (hl : xs.length ≤ lim) (I : Nat → List U → Env → Prop) (h0 : I 0 [] ρ1) (hs : ∀ i x out ρ, xs[i]? = some x → I i out ρ → ∃ o ρ', cturn C el tg tup cond own x ρ = some (o, ρ') ∧ I (i + 1) (out ++ o.toList) ρ') : ∃ out ρ', uE C (.comp el tg tup it cond own) ρ = some (.lst out, ρ') ∧ I xs.length out ρ' := by
  obtain ⟨out, ρ', e, h⟩ := compU_ind (turn := cturn C el tg tup cond own) I (xs := xs) (n := 0) (acc := []) h0 (by simpa using hs)
  refine ⟨out, ρ', ?_, by simpa using h⟩
  rw [u_compE, hI]
  simp only [Option.bind_some, lockO]
  rw [if_pos hl, e]
  rfl
end
/-! ### a slot that is made one's own -/
def stOs (s : Sl) (ρ : Env) (i : Nat) (v : U) : Option Env := match s with
  | .no => if isC v = true then some (ρ.set i (.own v)) else none
  | .own _ => if isC v = true then some (ρ.set i (.own v)) else none
  | .val none => if isC v = true then some (ρ.set i (.own v)) else none
  | _ => none
theorem stO_0 {ρ : Env} {i : Nat} {v : U} : stO ρ i v = stOs (ρ.getD i .no) ρ i v := by
  unfold stO stOs
  split <;> simp_all
theorem stOs_no {ρ : Env} {i : Nat} {v : U} : stOs .no ρ i v = if isC v = true then some (ρ.set i (.own v)) else none := rfl
theorem stOs_own {ρ : Env} {i : Nat} {v w : U} : stOs (.own w) ρ i v = if isC v = true then some (ρ.set i (.own v)) else none := rfl
theorem stOs_vn {ρ : Env} {i : Nat} {v : U} : stOs (.val none) ρ i v = if isC v = true then some (ρ.set i (.own v)) else none := rfl
/-- a slot that is free for a thing of one's own -/
def Jk (s : Sl) : Prop := s = .no ∨ s = .val none ∨ ∃ v, s = .own v
theorem Jk.n : Jk (.val none) := .inr (.inl rfl)
theorem Jk.o {v : U} : Jk (.own v) := .inr (.inr ⟨v, rfl⟩)
theorem stOs_jk {s : Sl} {ρ : Env} {i : Nat} {v : U} (h : Jk s) (hv : isC v = true) : stOs s ρ i v = some (ρ.set i (.own v)) := by
  rcases h with rfl | rfl | ⟨w, rfl⟩
  · rw [stOs_no, if_pos hv]
  · rw [stOs_vn, if_pos hv]
  · rw [stOs_own, if_pos hv]
/-! ### classes, counts, lists that are empty -/
theorem isi_tuple_N : ubi (.isi .tuple) [.non] = some (.bl false) := rfl
theorem isi_tuple_B {b : Bool} : ubi (.isi .tuple) [(.bl b)] = some (.bl false) := rfl
theorem isi_tuple_I {i : Int} : ubi (.isi .tuple) [(.int i)] = some (.bl false) := rfl
theorem isi_tuple_S {s : Str} : ubi (.isi .tuple) [(.str s)] = some (.bl false) := rfl
theorem isi_tuple_T {xs : List U} : ubi (.isi .tuple) [(.tup xs)] = some (.bl true) := rfl
theorem isi_tuple_L {xs : List U} : ubi (.isi .tuple) [(.lst xs)] = some (.bl false) := rfl
theorem isi_tuple_D {kvs : List (U × U)} : ubi (.isi .tuple) [(.dic kvs)] = some (.bl false) := rfl
theorem isi_bool_N : ubi (.isi .bool) [.non] = some (.bl false) := rfl
theorem isi_bool_B {b : Bool} : ubi (.isi .bool) [(.bl b)] = some (.bl true) := rfl
theorem isi_bool_I {i : Int} : ubi (.isi .bool) [(.int i)] = some (.bl false) := rfl
theorem isi_bool_S {s : Str} : ubi (.isi .bool) [(.str s)] = some (.bl false) := rfl
theorem isi_bool_T {xs : List U} : ubi (.isi .bool) [(.tup xs)] = some (.bl false) := rfl
theorem isi_bool_L {xs : List U} : ubi (.isi .bool) [(.lst xs)] = some (.bl false) := rfl
theorem isi_bool_D {kvs : List (U × U)} : ubi (.isi .bool) [(.dic kvs)] = some (.bl false) := rfl
theorem isi_int_N : ubi (.isi .int) [.non] = some (.bl false) := rfl
theorem isi_int_B {b : Bool} : ubi (.isi .int) [(.bl b)] = some (.bl true) := rfl
theorem isi_int_I {i : Int} : ubi (.isi .int) [(.int i)] = some (.bl true) := rfl
theorem isi_int_S {s : Str} : ubi (.isi .int) [(.str s)] = some (.bl false) := rfl
theorem isi_int_T {xs : List U} : ubi (.isi .int) [(.tup xs)] = some (.bl false) := rfl
theorem isi_int_L {xs : List U} : ubi (.isi .int) [(.lst xs)] = some (.bl false) := rfl
theorem isi_int_D {kvs : List (U × U)} : ubi (.isi .int) [(.dic kvs)] = some (.bl false) := rfl
theorem isi_str_N : ubi (.isi .str) [.non] = some (.bl false) := rfl
theorem isi_str_B {b : Bool} : ubi (.isi .str) [(.bl b)] = some (.bl false) := rfl
theorem isi_str_I {i : Int} : ubi (.isi .str) [(.int i)] = some (.bl false) := rfl
theorem isi_str_S {s : Str} : ubi (.isi .str) [(.str s)] = some (.bl true) := rfl
theorem isi_str_T {xs : List U} : ubi (.isi .str) [(.tup xs)] = some (.bl false) := rfl
theorem isi_str_L {xs : List U} : ubi (.isi .str) [(.lst xs)] = some (.bl false) := rfl
theorem isi_str_D {kvs : List (U × U)} : ubi (.isi .str) [(.dic kvs)] = some (.bl false) := rfl
theorem isi_list_N : ubi (.isi .list) [.non] = some (.bl false) := rfl
theorem isi_list_B {b : Bool} : ubi (.isi .list) [(.bl b)] = some (.bl false) := rfl
theorem isi_list_I {i : Int} : ubi (.isi .list) [(.int i)] = some (.bl false) := rfl
theorem isi_list_S {s : Str} : ubi (.isi .list) [(.str s)] = some (.bl false) := rfl
theorem isi_list_T {xs : List U} : ubi (.isi .list) [(.tup xs)] = some (.bl false) := rfl
theorem isi_list_L {xs : List U} : ubi (.isi .list) [(.lst xs)] = some (.bl true) := rfl
theorem isi_list_D {kvs : List (U × U)} : ubi (.isi .list) [(.dic kvs)] = some (.bl false) := rfl
theorem isi_dict_N : ubi (.isi .dict) [.non] = some (.bl false) := rfl
theorem isi_dict_B {b : Bool} : ubi (.isi .dict) [(.bl b)] = some (.bl false) := rfl
theorem isi_dict_I {i : Int} : ubi (.isi .dict) [(.int i)] = some (.bl false) := rfl
theorem isi_dict_S {s : Str} : ubi (.isi .dict) [(.str s)] = some (.bl false) := rfl
theorem isi_dict_T {xs : List U} : ubi (.isi .dict) [(.tup xs)] = some (.bl false) := rfl
theorem isi_dict_L {xs : List U} : ubi (.isi .dict) [(.lst xs)] = some (.bl false) := rfl
theorem isi_dict_D {kvs : List (U × U)} : ubi (.isi .dict) [(.dic kvs)] = some (.bl true) := rfl

theorem ubin_band {i : Int} (h : 0 ≤ i) : ubin .band (.int i) (.int 1) = some (.int (i % 2)) := by simp only [ubin]; rw [if_pos ⟨h, trivial⟩]
theorem umt_countI {xs : List Int} {i : Int} : umt .count (.tup (xs.map U.int)) [.int i] = some (.int (xs.count i : Nat), none) := by
  have h : (xs.map U.int).mapM (datU 59) = some ((xs.map U.int).map dU) := datUs_ok (n := 0) (by omega) (by intro v hv; obtain ⟨j, _, rfl⟩ := List.mem_map.mp hv; rfl)
  simp only [umt]
  rw [h]
  simp only [Option.bind_some, datU, Option.map_some, List.map_map]
  have : ∀ xs : List Int, List.countP (fun z => PyData.eqv z (PyData.int i)) (xs.map (dU ∘ U.int)) = xs.count i := by
    intro xs
    induction xs with
    | nil => rfl
    | cons x xs ih =>
      rw [List.map_cons, List.countP_cons, ih, List.count_cons]
      simp [dU, PyData.eqv]
  rw [this]
theorem ucm_eqL0 {n : Nat} {xs : List U} (h : ∀ x ∈ xs, okU n x = true) (hn : n ≤ 50) : ucm .eq (.lst xs) (.lst []) = some xs.isEmpty := by
  show eqU _ _ = _
  unfold eqU
  simp only [datU]
  rw [datUs_ok (by omega : n ≤ 59) h]
  cases xs <;> rfl
theorem ucm_neL0 {n : Nat} {xs : List U} (h : ∀ x ∈ xs, okU n x = true) (hn : n ≤ 50) : ucm .ne (.lst xs) (.lst []) = some (!xs.isEmpty) := by
  show (eqU _ _).map not = _
  rw [show eqU (.lst xs) (.lst []) = some xs.isEmpty from ucm_eqL0 h hn]; rfl
theorem ucm_eqB {b c : Bool} : ucm .eq (.bl b) (.bl c) = some (b == c) := rfl
theorem uix_last {xs : List U} {x : U} (h : xs[xs.length - 1]? = some x) : uix (.tup xs) (.int (-1)) = some x := by
  have hl : xs.length - 1 < xs.length := (List.getElem?_eq_some_iff.mp h).1
  simp only [uix, atU, ixOf]
  rw [if_neg (by omega), if_pos (by omega), show ((-1 : Int) + (xs.length : Int)).toNat = xs.length - 1 by omega]
  exact h
theorem dcT [Decidable True] : decide True = true := by simp
theorem dcF [Decidable False] : decide False = false := by simp
theorem uix_T0 {x : U} {xs : List U} : uix (.tup (x :: xs)) (.int 0) = some x := uix_T (k := 0) rfl rfl
theorem uix_T1 {x y : U} {xs : List U} : uix (.tup (x :: y :: xs)) (.int 1) = some y := uix_T (k := 1) rfl rfl
theorem uix_T2 {x y z : U} {xs : List U} : uix (.tup (x :: y :: z :: xs)) (.int 2) = some z := uix_T (k := 2) rfl rfl
theorem uix_T3 {x y z a : U} {xs : List U} : uix (.tup (x :: y :: z :: a :: xs)) (.int 3) = some a := uix_T (k := 3) rfl rfl
theorem uix_L0 {x : U} {xs : List U} : uix (.lst (x :: xs)) (.int 0) = some x := uix_L (k := 0) rfl rfl
theorem rngD (i : Nat) : (0 : Int) + (i : Int) * 1 = (i : Int) := by omega

local macro_rules | `(tactic| rotate_right) => `(tactic| simp -implicitDefEqProofs (disch := omega) only [Bd_cons, Bd_nil, Bd_ife, Bdb_T, Bdb_F, Bdt_mk, aft_nx, aft_rt, aft_bk, aft_ct, lp_nx, lp_rt, lp_bk, lp_ct, val_rt, val_nx, ex_rt, ex_nx, us_asg, us_asgO, us_asgS, us_asgT, us_aug, us_augS, us_ret, us_retN, us_expr, us_pass, us_brk, us_cont, u_var, u_own, u_mv, u_int, u_str, u_bl, u_non, u_tup, u_lst, u_dic, u_bin, u_neg, u_not, u_and, u_or, u_ife, u_cmp, u_chain, u_isN, u_call, u_bi, u_mt, u_ix, u_sl, u_nil, u_cons, u_oN, u_oS, u_cN, u_cS, u_and1, u_and2, u_or1, u_or2,
  ut_not, ut_and, ut_or, ut_ife, ut_isN, ut_chain, ut_cmp, ut_val, ut_and1, ut_and2, ut_or1, ut_or2, bd_mk, Bd_nx, Bd_rt, Bd_bk, Bd_ct, rdV, rdO, mvO, stV, stO_0, stOs_no, stOs_own, stOs_vn, wrO, wrE, wrs, rdA, rdAs, afterMt, recvU, isC_L, isC_D, utg, utgs, uInt, uBl, negU, isNU, truU,
  ubin_addI, ubin_subI, ubin_mulI, ubin_fdivI, ubin_modI, ubin_addT, ubin_addL, ucm_ltI, ucm_leI, ucm_gtI, ucm_geI, ubi_lenT, ubi_lenL, ubi_lenR, ubi_lenD, ubi_absI, ubi_intI, ubi_maxI, ubi_minI, ubi_list, ubi_tuple, itemsU, uaug_addI, uaug_subI,
  Option.bind_some, Option.map_some, ite_T, ite_F, List.getD_cons_zero, List.getD_cons_succ, List.set_cons_zero, List.set_cons_succ, List.zipWith_cons_cons, List.zipWith_nil_left, List.zipWith, inS, startU, List.map_cons, List.map_nil, List.length_cons, List.length_nil, Nat.reduceAdd, Nat.reduceSub, List.replicate, List.cons_append, List.nil_append, if_true, if_false, Bool.false_eq_true, reduceIte, Bool.not_true, Bool.not_false, cturn, bindW, okOwn, bindU, wipeU, backU, List.zip_cons_cons, List.zip_nil_right, List.foldl_cons, List.foldl_nil, uix_T0, uix_T1, uix_T2, uix_T3, uix_L0, dcT, dcF, Bool.true_and, Bool.and_true, Bool.and_self, Option.toList, Option.map_none, isi_tuple_N, isi_tuple_B, isi_tuple_I, isi_tuple_S, isi_tuple_T, isi_tuple_L, isi_tuple_D, isi_bool_N, isi_bool_B, isi_bool_I, isi_bool_S, isi_bool_T, isi_bool_L, isi_bool_D, isi_int_N, isi_int_B, isi_int_I, isi_int_S, isi_int_T, isi_int_L, isi_int_D, isi_str_N, isi_str_B, isi_str_I, isi_str_S, isi_str_T, isi_str_L, isi_str_D, isi_list_N, isi_list_B, isi_list_I, isi_list_S, isi_list_T, isi_list_L, isi_list_D, isi_dict_N, isi_dict_B, isi_dict_I, isi_dict_S, isi_dict_T, isi_dict_L, isi_dict_D])
/-! ### alike -/
def fAlike (j : Nat) : Fn := ⟨2, 3,
  [
    .ife (.val (.bi (.isi .tuple) [(.var 1)]))
      [
        .ife (.or [(.not (.val (.bi (.isi .tuple) [(.var 0)]))), (.cmp .ne (.bi .len [(.var 0)]) (.bi .len [(.var 1)]))])
          [
            .ret (.bl false)]
          [],
        .ret (.cmp .eq (.comp (.var 2) [2] false (.rng [(.bi .len [(.var 1)])]) (some (.not (.val (.call j [(.ix (.var 0) (.var 2)), (.ix (.var 1) (.var 2))])))) [2]) (.lst []))]
      [],
    .ife (.isN false (.var 1))
      [
        .ret (.isN false (.var 0))]
      [],
    .ife (.val (.bi (.isi .bool) [(.var 1)]))
      [
        .ret (.and [(.bi (.isi .bool) [(.var 0)]), (.cmp .eq (.var 0) (.var 1))])]
      [],
    .ife (.val (.bi (.isi .int) [(.var 1)]))
      [
        .ret (.and [(.bi (.isi .int) [(.var 0)]), (.not (.bi (.isi .bool) [(.var 0)])), (.cmp .eq (.var 0) (.var 1))])]
      [],
    .ret (.and [(.bi (.isi .str) [(.var 0)]), (.cmp .eq (.var 0) (.var 1))])]⟩
/-- values that alike knows -/
def okA : Nat → U → Bool
  | _, .non => true
  | _, .bl _ => true
  | _, .int _ => true
  | _, .str _ => true
  | n + 1, .tup xs => decide (xs.length ≤ 1000) && xs.all (okA n)
  | _, _ => false
theorem okA_int {n : Nat} {i : Int} : okA n (.int i) = true := by cases n <;> rfl
theorem okA_tup {n : Nat} {xs : List U} (h : xs.length ≤ 1000) (h2 : ∀ x ∈ xs, okA n x = true) : okA (n + 1) (.tup xs) = true := by
  simp only [okA, Bool.and_eq_true, decide_eq_true_eq, List.all_eq_true]; exact ⟨h, h2⟩
theorem sp_alike {P : Prog} {Γ : Cls} {j : Nat} (hP : P[j]? = some (fAlike j)) (hΓ : Γ[j]? = some [.val, .val]) : ∀ (n : Nat) (v : U) (k : Nat), okA n v = true → n + 1 ≤ k → uF P Γ k j [v, v] = some (.bl true, []) := by
  intro n
  induction n with
  | zero =>
    intro v k h hk
    obtain ⟨k, rfl⟩ : ∃ k', k = k' + 1 := ⟨k - 1, by omega⟩
    cases v <;> try (simp [okA] at h; done)
    all_goals
      refine uF_val hP hΓ ⟨rfl, rfl, rfl⟩ rfl ?_
      unfold fAlike
      rotate_right
    all_goals try rw [ucm_eqB, beq_self_eq_true]
    all_goals try rw [ucm_eq 0 rfl rfl (by omega)]
    all_goals rotate_right
  | succ n ih =>
    intro v k h hk
    obtain ⟨k, rfl⟩ : ∃ k', k = k' + 1 := ⟨k - 1, by omega⟩
    cases v <;> try (simp [okA] at h; done)
    case tup xs =>
      simp only [okA, Bool.and_eq_true, decide_eq_true_eq, List.all_eq_true] at h
      refine uF_val hP hΓ ⟨rfl, rfl, rfl⟩ rfl ?_
      unfold fAlike
      rotate_right
      rw [ucm_neI]
      rotate_right
      rw [u_comp (xs := rangeU 0 xs.length 1) (by
        simp only [ui_rng]
        rotate_right
        rw [rngU1 (by omega)]; rfl) (by rw [rangeU_len]; show _ ≤ 16777216; omega) (fun _ => none) (by
          intro x hx
          obtain ⟨i, hi0⟩ := List.getElem?_of_mem hx
          obtain ⟨hi, rfl⟩ := rangeU_at hi0
          rotate_right
          have hix : uix (.tup xs) (.int (0 + (i : Int) * 1)) = some xs[i] := uix_T (k := i) (by omega) (List.getElem?_eq_getElem hi)
          rw [hix]
          rotate_right
          rw [hix]
          rotate_right
          rw [ih _ _ (h.2 _ (List.getElem_mem hi)) (by omega)]
          rotate_right)]
      rotate_right
      rw [show (List.filterMap (fun _ => (none : Option U)) (rangeU 0 xs.length 1)) = [] by simp, ucm_eqL0 (n := 0) (by simp) (by omega)]
      rotate_right
      rfl
    all_goals
      refine uF_val hP hΓ ⟨rfl, rfl, rfl⟩ rfl ?_
      unfold fAlike
      rotate_right
    all_goals try rw [ucm_eqB, beq_self_eq_true]
    all_goals try rw [ucm_eq 0 rfl rfl (by omega)]
    all_goals rotate_right
end VL
end

section
set_option Elab.async false
set_option linter.all false
set_option maxRecDepth 100000
set_option maxHeartbeats 0
namespace K67
open PySem PySem.Spec PyProof.Rows L2
open PL hiding St
abbrev St := PL.St
/-! ### the text as terms -/
def top (i : Nat) : Stmt := PySem.Challenge.pw_trickward_k67_ranks_and_pairings.main.body.getD i (.Pass ⟨0, 0, 0, 0⟩)
def f_common : Fn := ⟨2, 2,
  [
    .asg (.tup [(.name 0), (.name 1)]) (.tup [(.bi .abs [(.var 0)]), (.bi .abs [(.var 1)])]),
    .while (.cmp .ne (.var 1) (.int 0))
      [
        .asg (.tup [(.name 0), (.name 1)]) (.tup [(.var 1), (.bin .mod (.var 0) (.var 1))])],
    .ret (.var 0)]⟩
def d_common : DI := ⟨"common", ["a", "b"], ["a", "b"], top 1⟩
def f_fraction : Fn := ⟨2, 3,
  [
    .asg (.name 2) (.call 0 [(.var 0), (.var 1)]),
    .ife (.cmp .lt (.var 1) (.int 0))
      [
        .asg (.name 2) (.neg (.var 2))]
      [],
    .ret (.tup [(.bin .fdiv (.var 0) (.var 2)), (.bin .fdiv (.var 1) (.var 2))])]⟩
def d_fraction : DI := ⟨"fraction", ["a", "b"], ["a", "b", "d"], top 2⟩
def f_ranks_of : Fn := ⟨1, 3,
  [
    .ret (.bi .tuple [(.comp (.bin .add (.int 1) (.bi .len [(.comp (.var 1) [1] false (.val (.var 0)) (some (.cmp .gt (.var 1) (.var 2))) [1])])) [2] false (.val (.var 0)) none [2])])]⟩
def d_ranks_of : DI := ⟨"ranks_of", ["scores"], ["scores", "one", "own"], top 4⟩
def f_shared_ranks : Fn := ⟨1, 6,
  [
    .asg (.own 1) (.lst []),
    .for (.name 2) (.val (.var 0))
      [
        .asg (.name 3) (.bi .len [(.comp (.var 4) [4] false (.val (.var 0)) (some (.cmp .gt (.var 4) (.var 2))) [4])]),
        .asg (.name 5) (.mt .count (.var 0) [(.var 2)]),
        .expr (.mt .append (.own 1) [(.call 1 [(.bin .add (.bin .add (.bin .mul (.int 2) (.var 3)) (.var 5)) (.int 1)), (.int 2)])])],
    .ret (.bi .tuple [(.own 1)])]⟩
def d_shared_ranks : DI := ⟨"shared_ranks", ["scores"], ["scores", "found", "own", "above", "one", "same"], top 5⟩
def f_victory_points : Fn := ⟨2, 6,
  [
    .asg (.name 2) (.bi .abs [(.var 0)]),
    .asg (.name 3) (.ix (.ix (.var 1) (.neg (.int 1))) (.int 1)),
    .for (.tup [(.name 4), (.name 5)]) (.rev (.var 1))
      [
        .ife (.cmp .le (.var 2) (.var 4))
          [
            .asg (.name 3) (.var 5)]
          []],
    .ife (.cmp .lt (.var 0) (.int 0))
      [
        .ret (.tup [(.bin .sub (.int 20) (.var 3)), (.var 3)])]
      [],
    .ret (.tup [(.var 3), (.bin .sub (.int 20) (.var 3))])]⟩
def d_victory_points : DI := ⟨"victory_points", ["difference", "scale"], ["difference", "scale", "own", "points", "step", "worth"], top 6⟩
def f_swiss_pairs : Fn := ⟨2, 6,
  [
    .ife (.cmp .eq (.var 0) (.tup []))
      [
        .ret (.tup [])]
      [],
    .asg (.name 2) (.ix (.var 0) (.int 0)),
    .for (.name 3) (.rng [(.int 1), (.bi .len [(.var 0)])])
      [
        .asg (.name 4) (.ix (.var 0) (.var 3)),
        .ife (.cmp .notin (.tup [(.bi .min [(.var 2), (.var 4)]), (.bi .max [(.var 2), (.var 4)])]) (.var 1))
          [
            .asg (.name 5) (.call 5 [(.bin .add (.sl (.var 0) (some (.int 1)) (some (.var 3))) (.sl (.var 0) (some (.bin .add (.var 3) (.int 1))) none)), (.var 1)]),
            .ife (.isN true (.var 5))
              [
                .ret (.bin .add (.tup [(.tup [(.var 2), (.var 4)])]) (.var 5))]
              []]
          []],
    .ret .non]⟩
def d_swiss_pairs : DI := ⟨"swiss_pairs", ["order", "met"], ["order", "met", "one", "k", "other", "rest"], top 7⟩
def f__law_draws : Fn := ⟨2, 8,
  [
    .asg (.own 2) (.lst []),
    .asg (.name 3) (.int 7),
    .for (.name 4) (.rng [(.bi .len [(.var 0)])])
      [
        .asg (.name 5) (.bi .abs [(.bi .int [(.ix (.var 0) (.var 4))])]),
        .asg (.name 3) (.bin .mod (.bi .int [(.bin .add (.bin .add (.bin .mul (.var 3) (.int 48271)) (.bin .mod (.var 5) (.int 1000003))) (.var 4))]) (.int 65537)),
        .asg (.name 6) (.int 0),
        .ife (.cmp .ge (.var 5) (.bin .pow (.int 10) (.int 18)))
          [
            .asg (.name 6) (.var 5)]
          [
            .expr (.mt .append (.own 2) [(.bin .mod (.bi .int [(.var 5)]) (.int 997))]),
            .expr (.mt .append (.own 2) [(.bin .mod (.bin .mod (.bi .int [(.bin .add (.bin .mul (.var 3) (.int 69621)) (.int 5))]) (.int 65521)) (.int 997))])],
        .for (.name 7) (.rng [(.int 60)])
          [
            .ife (.cmp .gt (.var 6) (.int 0))
              [
                .expr (.mt .append (.own 2) [(.bin .mod (.bi .int [(.var 6)]) (.int 997))]),
                .asg (.name 6) (.bin .fdiv (.var 6) (.int 997))]
              []]],
    .for (.name 4) (.rng [(.var 1)])
      [
        .asg (.name 3) (.bin .mod (.bi .int [(.bin .add (.bin .add (.bin .mul (.var 3) (.int 16807)) (.var 4)) (.int 1))]) (.int 65537)),
        .expr (.mt .append (.own 2) [(.bin .mod (.bi .int [(.var 3)]) (.int 997))])],
    .ret (.sl (.own 2) none (some (.var 1)))]⟩
def d__law_draws : DI := ⟨"_law_draws", ["script", "many"], ["script", "many", "draws", "mixed", "k", "cell", "rest", "turn"], top 9⟩
def f__law_next : Fn := ⟨2, 2,
  [
    .augS (.own 0) (.str "at") .add (.int 1),
    .ife (.cmp .gt (.ix (.own 0) (.str "at")) (.bi .len [(.ix (.own 0) (.str "draws"))]))
      [
        .ret (.int 0)]
      [],
    .ret (.bin .mod (.bi .int [(.ix (.ix (.own 0) (.str "draws")) (.bin .sub (.ix (.own 0) (.str "at")) (.int 1)))]) (.var 1))]⟩
def d__law_next : DI := ⟨"_law_next", ["w", "many"], ["w", "many"], top 10⟩
def f__law_pick : Fn := ⟨2, 2,
  [
    .ret (.ix (.var 1) (.call 7 [(.own 0), (.bi .len [(.var 1)])]))]⟩
def d__law_pick : DI := ⟨"_law_pick", ["w", "rows"], ["w", "rows"], top 11⟩
def f__law_alike : Fn := ⟨2, 3,
  [
    .ife (.val (.bi (.isi .tuple) [(.var 1)]))
      [
        .ife (.or [(.not (.val (.bi (.isi .tuple) [(.var 0)]))), (.cmp .ne (.bi .len [(.var 0)]) (.bi .len [(.var 1)]))])
          [
            .ret (.bl false)]
          [],
        .ret (.cmp .eq (.comp (.var 2) [2] false (.rng [(.bi .len [(.var 1)])]) (some (.not (.val (.call 9 [(.ix (.var 0) (.var 2)), (.ix (.var 1) (.var 2))])))) [2]) (.lst []))]
      [],
    .ife (.isN false (.var 1))
      [
        .ret (.isN false (.var 0))]
      [],
    .ife (.val (.bi (.isi .bool) [(.var 1)]))
      [
        .ret (.and [(.bi (.isi .bool) [(.var 0)]), (.cmp .eq (.var 0) (.var 1))])]
      [],
    .ife (.val (.bi (.isi .int) [(.var 1)]))
      [
        .ret (.and [(.bi (.isi .int) [(.var 0)]), (.not (.bi (.isi .bool) [(.var 0)])), (.cmp .eq (.var 0) (.var 1))])]
      [],
    .ret (.and [(.bi (.isi .str) [(.var 0)]), (.cmp .eq (.var 0) (.var 1))])]⟩
def d__law_alike : DI := ⟨"_law_alike", ["told", "due"], ["told", "due", "k"], top 12⟩
def f__law_pairings : Fn := ⟨1, 4,
  [
    .ife (.cmp .eq (.var 0) (.tup []))
      [
        .ret (.lst [(.tup [])])]
      [],
    .asg (.name 1) (.lst []),
    .for (.name 2) (.rng [(.int 1), (.bi .len [(.var 0)])])
      [
        .asg (.name 1) (.bin .add (.var 1) (.comp (.bin .add (.tup [(.tup [(.ix (.var 0) (.int 0)), (.ix (.var 0) (.var 2))])]) (.var 3)) [3] false (.val (.call 10 [(.bin .add (.sl (.var 0) (some (.int 1)) (some (.var 2))) (.sl (.var 0) (some (.bin .add (.var 2) (.int 1))) none))])) none [3]))],
    .ret (.var 1)]⟩
def d__law_pairings : DI := ⟨"_law_pairings", ["order"], ["order", "found", "k", "rest"], top 13⟩
def f__law_points : Fn := ⟨2, 5,
  [
    .asg (.name 2) (.comp (.var 4) [3, 4] true (.val (.var 1)) (some (.cmp .le (.bi .abs [(.var 0)]) (.var 3))) [3, 4]),
    .asg (.name 4) (.ife (.cmp .ne (.var 2) (.lst [])) (.ix (.var 2) (.int 0)) (.ix (.ix (.var 1) (.bin .sub (.bi .len [(.var 1)]) (.int 1))) (.int 1))),
    .ret (.ife (.cmp .ge (.var 0) (.int 0)) (.tup [(.var 4), (.bin .sub (.int 20) (.var 4))]) (.tup [(.bin .sub (.int 20) (.var 4)), (.var 4)]))]⟩
def d__law_points : DI := ⟨"_law_points", ["difference", "scale"], ["difference", "scale", "able", "step", "points"], top 14⟩
def f_law : Fn := ⟨1, 22,
  [
    .asg (.own 1) (.dic ["draws", "at"] [(.call 6 [(.var 0), (.int 500)]), (.int 0)]),
    .for (.name 2) (.rng [(.int 8)])
      [
        .asg (.name 3) (.bi .tuple [(.comp (.call 7 [(.own 1), (.int 5)]) [4] false (.rng [(.call 7 [(.own 1), (.int 8)])]) none [4])]),
        .asg (.name 5) (.comp (.bin .add (.int 1) (.bi .len [(.comp (.var 6) [6] false (.val (.var 3)) (some (.cmp .gt (.var 6) (.var 7))) [6])])) [7] false (.val (.var 3)) none [7]),
        .ife (.not (.val (.call 9 [(.call 2 [(.var 3)]), (.bi .tuple [(.var 5)])])))
          [
            .ret (.bl false)]
          [],
        .asg (.own 8) (.lst []),
        .for (.name 4) (.rng [(.bi .len [(.var 3)])])
          [
            .asg (.name 9) (.bin .sub (.bin .add (.bin .mul (.int 2) (.ix (.var 5) (.var 4))) (.mt .count (.var 3) [(.ix (.var 3) (.var 4))])) (.int 1)),
            .expr (.mt .append (.own 8) [(.ife (.cmp .eq (.bin .band (.var 9) (.int 1)) (.int 0)) (.tup [(.bin .fdiv (.var 9) (.int 2)), (.int 1)]) (.tup [(.var 9), (.int 2)]))])],
        .ife (.not (.val (.call 9 [(.call 3 [(.var 3)]), (.bi .tuple [(.own 8)])])))
          [
            .ret (.bl false)]
          [],
        .asg (.own 10) (.lst [(.call 7 [(.own 1), (.int 4)])]),
        .for (.name 4) (.rng [(.call 7 [(.own 1), (.int 5)])])
          [
            .expr (.mt .append (.own 10) [(.bin .add (.bin .add (.ix (.own 10) (.var 4)) (.int 1)) (.call 7 [(.own 1), (.int 6)]))])],
        .asg (.name 11) (.bi .tuple [(.comp (.tup [(.ix (.own 10) (.var 4)), (.bin .add (.int 10) (.var 4))]) [4] false (.rng [(.bi .len [(.own 10)])]) none [4])]),
        .for (.name 12) (.val (.tup [(.bin .sub (.call 7 [(.own 1), (.int 41)]) (.int 20)), (.int 0), (.ix (.own 10) (.int 0)), (.bin .sub (.neg (.ix (.own 10) (.bin .sub (.bi .len [(.own 10)]) (.int 1)))) (.int 1))]))
          [
            .ife (.not (.val (.call 9 [(.call 4 [(.var 12), (.var 11)]), (.call 11 [(.var 12), (.var 11)])])))
              [
                .ret (.bl false)]
              []],
        .asg (.name 13) (.bin .mul (.int 2) (.call 7 [(.own 1), (.int 4)])),
        .asg (.tup [(.name 14), (.name 15)]) (.tup [(.tup []), (.bi (.listR 1) [(.var 13)])]),
        .for (.name 4) (.rng [(.var 13)])
          [
            .asg (.name 14) (.bin .add (.var 14) (.tup [(.ix (.var 15) (.call 7 [(.own 1), (.bi .len [(.var 15)])]))])),
            .asg (.name 15) (.comp (.var 6) [6] false (.val (.var 15)) (some (.cmp .notin (.var 6) (.var 14))) [6])],
        .asg (.name 16) (.lst []),
        .for (.name 17) (.rng [(.var 13)])
          [
            .asg (.name 16) (.bin .add (.var 16) (.comp (.tup [(.var 17), (.var 18)]) [18] false (.rng [(.bin .add (.var 17) (.int 1)), (.var 13)]) (some (.cmp .eq (.call 7 [(.own 1), (.int 2)]) (.int 0))) [18]))],
        .asg (.name 19) (.comp (.var 20) [20] false (.val (.call 10 [(.var 14)])) (some (.cmp .eq (.comp (.int 1) [6, 21] true (.val (.var 20)) (some (.cmp .isin (.tup [(.bi .min [(.var 6), (.var 21)]), (.bi .max [(.var 6), (.var 21)])]) (.var 16))) [6, 21]) (.lst []))) [20]),
        .ife (.not (.val (.call 9 [(.call 5 [(.var 14), (.bi .tuple [(.var 16)])]), (.ife (.cmp .ne (.var 19) (.lst [])) (.ix (.var 19) (.int 0)) .non)])))
          [
            .ret (.bl false)]
          []],
    .ret (.bl true)]⟩
def d_law : DI := ⟨"law", ["script"], ["script", "w", "turn", "scores", "k", "ranks", "one", "own", "due", "twice", "steps", "scale", "difference", "many", "order", "left", "met", "i", "j", "able", "rows", "other"], top 15⟩
def prog : Prog := [f_common, f_fraction, f_ranks_of, f_shared_ranks, f_victory_points, f_swiss_pairs, f__law_draws, f__law_next, f__law_pick, f__law_alike, f__law_pairings, f__law_points, f_law]
def cls : Cls := [[.val, .val], [.val, .val], [.val], [.val], [.val, .val], [.val, .val], [.val, .val], [.ref, .val], [.ref, .val], [.val, .val], [.val], [.val, .val], [.val]]
def dis : List DI := [d_common, d_fraction, d_ranks_of, d_shared_ranks, d_victory_points, d_swiss_pairs, d__law_draws, d__law_next, d__law_pick, d__law_alike, d__law_pairings, d__law_points, d_law]
def G : Gs := ⟨["common", "fraction", "ranks_of", "shared_ranks", "victory_points", "swiss_pairs", "_law_draws", "_law_next", "_law_pick", "_law_alike", "_law_pairings", "_law_points", "law"], ["abs", "bool", "int", "isinstance", "len", "list", "max", "min", "range", "reversed", "str", "tuple"]⟩
theorem en_common {k : Nat} {a0 a1 : U} {v : U} (h : Bd (Po.val v) (uSs (uF prog cls k) f_common.body (startU f_common [.val, .val] [a0, a1]))) : uF prog cls (k + 1) 0 [a0, a1] = some (v, []) := uF_val (P := prog) (Γ := cls) (i := 0) rfl rfl ⟨rfl, rfl, rfl⟩ rfl h
theorem en_fraction {k : Nat} {a0 a1 : U} {v : U} (h : Bd (Po.val v) (uSs (uF prog cls k) f_fraction.body (startU f_fraction [.val, .val] [a0, a1]))) : uF prog cls (k + 1) 1 [a0, a1] = some (v, []) := uF_val (P := prog) (Γ := cls) (i := 1) rfl rfl ⟨rfl, rfl, rfl⟩ rfl h
theorem en_ranks_of {k : Nat} {a0 : U} {v : U} (h : Bd (Po.val v) (uSs (uF prog cls k) f_ranks_of.body (startU f_ranks_of [.val] [a0]))) : uF prog cls (k + 1) 2 [a0] = some (v, []) := uF_val (P := prog) (Γ := cls) (i := 2) rfl rfl ⟨rfl, rfl, rfl⟩ rfl h
theorem en_shared_ranks {k : Nat} {a0 : U} {v : U} (h : Bd (Po.val v) (uSs (uF prog cls k) f_shared_ranks.body (startU f_shared_ranks [.val] [a0]))) : uF prog cls (k + 1) 3 [a0] = some (v, []) := uF_val (P := prog) (Γ := cls) (i := 3) rfl rfl ⟨rfl, rfl, rfl⟩ rfl h
theorem en_victory_points {k : Nat} {a0 a1 : U} {v : U} (h : Bd (Po.val v) (uSs (uF prog cls k) f_victory_points.body (startU f_victory_points [.val, .val] [a0, a1]))) : uF prog cls (k + 1) 4 [a0, a1] = some (v, []) := uF_val (P := prog) (Γ := cls) (i := 4) rfl rfl ⟨rfl, rfl, rfl⟩ rfl h
theorem en_swiss_pairs {k : Nat} {a0 a1 : U} {v : U} (h : Bd (Po.val v) (uSs (uF prog cls k) f_swiss_pairs.body (startU f_swiss_pairs [.val, .val] [a0, a1]))) : uF prog cls (k + 1) 5 [a0, a1] = some (v, []) := uF_val (P := prog) (Γ := cls) (i := 5) rfl rfl ⟨rfl, rfl, rfl⟩ rfl h
theorem en__law_draws {k : Nat} {a0 a1 : U} {v : U} (h : Bd (Po.val v) (uSs (uF prog cls k) f__law_draws.body (startU f__law_draws [.val, .val] [a0, a1]))) : uF prog cls (k + 1) 6 [a0, a1] = some (v, []) := uF_val (P := prog) (Γ := cls) (i := 6) rfl rfl ⟨rfl, rfl, rfl⟩ rfl h
theorem en__law_next {k : Nat} {a0 a1 : U} {Q : U → PL.Env → Prop} (ha0 : isC a0 = true) (h : Bd (Po.ex [.ref, .val] Q) (uSs (uF prog cls k) f__law_next.body (startU f__law_next [.ref, .val] [a0, a1]))) : ∃ v fin ρ, uF prog cls (k + 1) 7 [a0, a1] = some (v, fin) ∧ finR [.ref, .val] ρ = some fin ∧ Q v ρ := uF_ex (P := prog) (Γ := cls) (i := 7) rfl rfl ⟨rfl, rfl, by simp [refsC, ha0]⟩ h
theorem en__law_pick {k : Nat} {a0 a1 : U} {Q : U → PL.Env → Prop} (ha0 : isC a0 = true) (h : Bd (Po.ex [.ref, .val] Q) (uSs (uF prog cls k) f__law_pick.body (startU f__law_pick [.ref, .val] [a0, a1]))) : ∃ v fin ρ, uF prog cls (k + 1) 8 [a0, a1] = some (v, fin) ∧ finR [.ref, .val] ρ = some fin ∧ Q v ρ := uF_ex (P := prog) (Γ := cls) (i := 8) rfl rfl ⟨rfl, rfl, by simp [refsC, ha0]⟩ h
theorem en__law_alike {k : Nat} {a0 a1 : U} {v : U} (h : Bd (Po.val v) (uSs (uF prog cls k) f__law_alike.body (startU f__law_alike [.val, .val] [a0, a1]))) : uF prog cls (k + 1) 9 [a0, a1] = some (v, []) := uF_val (P := prog) (Γ := cls) (i := 9) rfl rfl ⟨rfl, rfl, rfl⟩ rfl h
theorem en__law_pairings {k : Nat} {a0 : U} {v : U} (h : Bd (Po.val v) (uSs (uF prog cls k) f__law_pairings.body (startU f__law_pairings [.val] [a0]))) : uF prog cls (k + 1) 10 [a0] = some (v, []) := uF_val (P := prog) (Γ := cls) (i := 10) rfl rfl ⟨rfl, rfl, rfl⟩ rfl h
theorem en__law_points {k : Nat} {a0 a1 : U} {v : U} (h : Bd (Po.val v) (uSs (uF prog cls k) f__law_points.body (startU f__law_points [.val, .val] [a0, a1]))) : uF prog cls (k + 1) 11 [a0, a1] = some (v, []) := uF_val (P := prog) (Γ := cls) (i := 11) rfl rfl ⟨rfl, rfl, rfl⟩ rfl h
theorem en_law {k : Nat} {a0 : U} {v : U} (h : Bd (Po.val v) (uSs (uF prog cls k) f_law.body (startU f_law [.val] [a0]))) : uF prog cls (k + 1) 12 [a0] = some (v, []) := uF_val (P := prog) (Γ := cls) (i := 12) rfl rfl ⟨rfl, rfl, rfl⟩ rfl h
theorem ok_all : (List.zipWith (fun d f => d.ok G f) dis prog).all id = true := by decide +kernel
theorem vok : vokP prog cls = true := by decide +kernel
end K67
end

section
set_option Elab.async false
set_option linter.all false
set_option maxRecDepth 100000
set_option maxHeartbeats 0
namespace K67
open PySem PySem.W PySem.SeqAt VL
open PL hiding St

local macro_rules | `(tactic| rotate_right) => `(tactic| simp -implicitDefEqProofs (disch := omega) only [Bd_cons, Bd_nil, Bd_ife, Bdb_T, Bdb_F, Bdt_mk, aft_nx, aft_rt, aft_bk, aft_ct, lp_nx, lp_rt, lp_bk, lp_ct, val_rt, val_nx, ex_rt, ex_nx, us_asg, us_asgO, us_asgS, us_asgT, us_aug, us_augS, us_ret, us_retN, us_expr, us_pass, us_brk, us_cont, u_var, u_own, u_mv, u_int, u_str, u_bl, u_non, u_tup, u_lst, u_dic, u_bin, u_neg, u_not, u_and, u_or, u_ife, u_cmp, u_chain, u_isN, u_call, u_bi, u_mt, u_ix, u_sl, u_nil, u_cons, u_oN, u_oS, u_cN, u_cS, u_and1, u_and2, u_or1, u_or2,
  ut_not, ut_and, ut_or, ut_ife, ut_isN, ut_chain, ut_cmp, ut_val, ut_and1, ut_and2, ut_or1, ut_or2, bd_mk, Bd_nx, Bd_rt, Bd_bk, Bd_ct, rdV, rdO, mvO, stV, stO_0, stOs_no, stOs_own, stOs_vn, wrO, wrE, wrs, rdA, rdAs, afterMt, recvU, isC_L, isC_D, utg, utgs, uInt, uBl, negU, isNU, truU,
  ubin_addI, ubin_subI, ubin_mulI, ubin_fdivI, ubin_modI, ubin_addT, ubin_addL, ucm_ltI, ucm_leI, ucm_gtI, ucm_geI, ubi_lenT, ubi_lenL, ubi_lenR, ubi_lenD, ubi_absI, ubi_intI, ubi_maxI, ubi_minI, ubi_list, ubi_tuple, itemsU, uaug_addI, uaug_subI,
  Option.bind_some, Option.map_some, ite_T, ite_F, List.getD_cons_zero, List.getD_cons_succ, List.set_cons_zero, List.set_cons_succ, List.zipWith_cons_cons, List.zipWith_nil_left, List.zipWith, inS, startU, List.map_cons, List.map_nil, List.length_cons, List.length_nil, Nat.reduceAdd, Nat.reduceSub, List.replicate, List.cons_append, List.nil_append, if_true, if_false, Bool.false_eq_true, reduceIte, Bool.not_true, Bool.not_false, cturn, bindW, okOwn, bindU, wipeU, backU, List.zip_cons_cons, List.zip_nil_right, List.foldl_cons, List.foldl_nil, uix_T0, uix_T1, uix_T2, uix_T3, uix_L0, dcT, dcF, Bool.true_and, Bool.and_true, Bool.and_self, Option.toList, Option.map_none, isi_tuple_N, isi_tuple_B, isi_tuple_I, isi_tuple_S, isi_tuple_T, isi_tuple_L, isi_tuple_D, isi_bool_N, isi_bool_B, isi_bool_I, isi_bool_S, isi_bool_T, isi_bool_L, isi_bool_D, isi_int_N, isi_int_B, isi_int_I, isi_int_S, isi_int_T, isi_int_L, isi_int_D, isi_str_N, isi_str_B, isi_str_I, isi_str_S, isi_str_T, isi_str_L, isi_str_D, isi_list_N, isi_list_B, isi_list_I, isi_list_S, isi_list_T, isi_list_L, isi_list_D, isi_dict_N, isi_dict_B, isi_dict_I, isi_dict_S, isi_dict_T, isi_dict_L, isi_dict_D])

def above (own : Int) (xs : List Int) : List Int := xs.filterMap fun n => if own < n then some n else none
theorem above_len {own : Int} {xs : List Int} : (above own xs).length ≤ xs.length := List.length_filterMap_le _ _
/-! ### the fraction in lowest terms, over 2 -/
theorem sp_common {k t : Nat} (hk : 1 ≤ k) : uF prog cls k 0 [.int t, .int 2] = some (.int (Nat.gcd t 2 : Nat), []) := by
  obtain ⟨k, rfl⟩ : ∃ k', k = k' + 1 := ⟨k - 1, by omega⟩
  refine en_common ?_
  unfold f_common
  rotate_right
  rw [if_neg (by omega)]
  refine bd_while (m := 2) (fun m ρ => ∃ x : Nat, Nat.gcd x m = Nat.gcd t 2 ∧ ρ = [.val (some (.int x)), .val (some (.int m))]) ⟨t, rfl, by simp⟩ (by omega) ?_
  rintro m ρ ⟨x, hg, rfl⟩
  by_cases hm : m = 0
  · subst hm
    refine ⟨false, _, by
      rotate_right
      rw [ucm_neI]
      rotate_right
      rfl, by simp, fun _ => ?_⟩
    rotate_right
    rw [← hg, Nat.gcd_zero_right]
  · refine ⟨true, _, by
      rotate_right
      rw [ucm_neI, decide_eq_false (by omega)]
      rotate_right
      rfl, fun _ => ?_, by simp⟩
    rotate_right
    refine ⟨x % m, Nat.mod_lt _ (by omega), m, ?_, ?_⟩
    · rw [← hg, Nat.gcd_comm m, ← Nat.gcd_rec, Nat.gcd_comm]
    · simp
def fr (t : Nat) : U := if t % 2 = 0 then .tup [.int (t / 2 : Nat), .int 1] else .tup [.int t, .int 2]
theorem sp_fraction {k t : Nat} (hk : 2 ≤ k) : uF prog cls k 1 [.int t, .int 2] = some (fr t, []) := by
  obtain ⟨k, rfl⟩ : ∃ k', k = k' + 1 := ⟨k - 1, by omega⟩
  refine en_fraction ?_
  unfold f_fraction
  rotate_right
  rw [sp_common (by omega)]
  rotate_right
  rw [decide_eq_false (by omega)]
  rotate_right
  unfold fr
  by_cases h : t % 2 = 0
  · have hg : Nat.gcd t 2 = 2 := by
      rw [Nat.gcd_comm]; exact Nat.gcd_eq_left (Nat.dvd_of_mod_eq_zero h)
    rw [hg, if_pos h]
    rotate_right
    simp
  · have hg : Nat.gcd t 2 = 1 := by
      rw [Nat.gcd_comm, Nat.gcd_rec, show t % 2 = 1 by omega]; rfl
    rw [hg, if_neg h]
    rotate_right
    simp
/-! ### ranks -/
theorem in_ranks {C : Cv} {xs : List Int} {own : Int} {v1 : Option U} (hl : xs.length ≤ 1000) : uE C (.comp (.var 1) [1] false (.val (.var 0)) (some (.cmp .gt (.var 1) (.var 2))) [1]) [.val (some (.tup (xs.map U.int))), .val v1, .val (some (.int own))] = some (.lst ((above own xs).map U.int), [.val (some (.tup (xs.map U.int))), .val v1, .val (some (.int own))]) := by
  unfold above
  refine u_compM (α := Int) (β := Int) (enc := U.int) (enc' := U.int) (by
    simp only [ui_val]
    rotate_right
    simp only [uiter]
    rotate_right
    rfl) (by show _ ≤ 16777216; omega) (fun n => if own < n then some n else none) fun x hx => ?_
  rotate_right
  by_cases h : own < x
  · rw [decide_eq_true h, if_pos h]
    rotate_right
  · rw [decide_eq_false h, if_neg h]
    rotate_right
theorem in_shared {C : Cv} {xs : List Int} {own : Int} {s1 s3 s5 : Sl} {v4 : Option U} (hl : xs.length ≤ 1000) : uE C (.comp (.var 4) [4] false (.val (.var 0)) (some (.cmp .gt (.var 4) (.var 2))) [4]) [.val (some (.tup (xs.map U.int))), s1, .val (some (.int own)), s3, .val v4, s5] = some (.lst ((above own xs).map U.int), [.val (some (.tup (xs.map U.int))), s1, .val (some (.int own)), s3, .val v4, s5]) := by
  unfold above
  refine u_compM (α := Int) (β := Int) (enc := U.int) (enc' := U.int) (by
    simp only [ui_val]
    rotate_right
    simp only [uiter]
    rotate_right
    rfl) (by show _ ≤ 16777216; omega) (fun n => if own < n then some n else none) fun x hx => ?_
  rotate_right
  by_cases h : own < x
  · rw [decide_eq_true h, if_pos h]
    rotate_right
  · rw [decide_eq_false h, if_neg h]
    rotate_right

def ranks (xs : List Int) : List Int := xs.map fun own => 1 + ((above own xs).length : Int)
theorem sp_ranks {k : Nat} {xs : List Int} (hk : 1 ≤ k) (hl : xs.length ≤ 1000) : uF prog cls k 2 [.tup (xs.map U.int)] = some (.tup ((ranks xs).map U.int), []) := by
  obtain ⟨k, rfl⟩ : ∃ k', k = k' + 1 := ⟨k - 1, by omega⟩
  refine en_ranks_of ?_
  unfold f_ranks_of
  rotate_right
  rw [u_compM (α := Int) (β := Int) (enc := U.int) (enc' := U.int) (by
    simp only [ui_val]
    rotate_right
    simp only [uiter]
    rotate_right
    rfl) (by show _ ≤ 16777216; omega) (fun own => some (1 + ((above own xs).length : Int))) fun x hx => by
      rotate_right
      rw [in_ranks hl]
      rotate_right
      simp]
  rotate_right
  simp [ranks]
def shared (xs : List Int) : List U := xs.map fun own => fr (2 * (above own xs).length + xs.count own + 1)
theorem sp_shared {k : Nat} {xs : List Int} (hk : 3 ≤ k) (hl : xs.length ≤ 1000) : uF prog cls k 3 [.tup (xs.map U.int)] = some (.tup (shared xs), []) := by
  obtain ⟨k, rfl⟩ : ∃ k', k = k' + 1 := ⟨k - 1, by omega⟩
  refine en_shared_ranks ?_
  unfold f_shared_ranks
  rotate_right
  refine bd_for (xs := xs.map U.int) (by
    simp only [ui_val]
    rotate_right
    simp only [uiter]
    rotate_right
    rfl) (fun i ρ => ∃ v2 v3 v4 v5, ρ = [.val (some (.tup (xs.map U.int))), .own (.lst ((shared xs).take i)), .val v2, .val v3, .val v4, .val v5])
    ⟨_, _, _, _, rfl⟩ ?_ ?_
  · rintro i x ρ hx ⟨v2, v3, v4, v5, rfl⟩
    rw [List.getElem?_map] at hx
    obtain ⟨n, hn, rfl⟩ := Option.map_eq_some_iff.mp hx
    have hi := (List.getElem?_eq_some_iff.mp hn).1
    rotate_right
    rw [in_shared hl]
    rotate_right
    rw [umt_countI]
    rotate_right
    rw [show (2 * (((above n xs).map U.int).length : Int) + (List.count n xs : Nat) + 1 : Int) = ((2 * (above n xs).length + xs.count n + 1 : Nat) : Int) by simp, sp_fraction (by omega)]
    rotate_right
    rw [umt_app (by simp [shared]; omega)]
    rotate_right
    have hL : (shared xs).take i ++ [fr (2 * (above n xs).length + xs.count n + 1)] = (shared xs).take (i + 1) := by
      rw [List.take_add_one, show (shared xs)[i]? = some (fr (2 * (above n xs).length + xs.count n + 1)) by rw [shared, List.getElem?_map, hn]; rfl]
      rfl
    rw [hL]
    exact ⟨_, _, _, _, rfl⟩
  · rintro ρ ⟨v2, v3, v4, v5, rfl⟩
    rotate_right
    rw [List.take_of_length_le (by simp [shared])]
end K67
end

section
set_option Elab.async false
set_option linter.all false
set_option maxRecDepth 100000
set_option maxHeartbeats 0
namespace K67
open PySem PySem.W PySem.SeqAt VL
open PL hiding St

local macro_rules | `(tactic| rotate_right) => `(tactic| simp -implicitDefEqProofs (disch := omega) only [Bd_cons, Bd_nil, Bd_ife, Bdb_T, Bdb_F, Bdt_mk, aft_nx, aft_rt, aft_bk, aft_ct, lp_nx, lp_rt, lp_bk, lp_ct, val_rt, val_nx, ex_rt, ex_nx, us_asg, us_asgO, us_asgS, us_asgT, us_aug, us_augS, us_ret, us_retN, us_expr, us_pass, us_brk, us_cont, u_var, u_own, u_mv, u_int, u_str, u_bl, u_non, u_tup, u_lst, u_dic, u_bin, u_neg, u_not, u_and, u_or, u_ife, u_cmp, u_chain, u_isN, u_call, u_bi, u_mt, u_ix, u_sl, u_nil, u_cons, u_oN, u_oS, u_cN, u_cS, u_and1, u_and2, u_or1, u_or2,
  ut_not, ut_and, ut_or, ut_ife, ut_isN, ut_chain, ut_cmp, ut_val, ut_and1, ut_and2, ut_or1, ut_or2, bd_mk, Bd_nx, Bd_rt, Bd_bk, Bd_ct, rdV, rdO, mvO, stV, stO_0, stOs_no, stOs_own, stOs_vn, wrO, wrE, wrs, rdA, rdAs, afterMt, recvU, isC_L, isC_D, utg, utgs, uInt, uBl, negU, isNU, truU,
  ubin_addI, ubin_subI, ubin_mulI, ubin_fdivI, ubin_modI, ubin_addT, ubin_addL, ucm_ltI, ucm_leI, ucm_gtI, ucm_geI, ubi_lenT, ubi_lenL, ubi_lenR, ubi_lenD, ubi_absI, ubi_intI, ubi_maxI, ubi_minI, ubi_list, ubi_tuple, itemsU, uaug_addI, uaug_subI,
  Option.bind_some, Option.map_some, ite_T, ite_F, List.getD_cons_zero, List.getD_cons_succ, List.set_cons_zero, List.set_cons_succ, List.zipWith_cons_cons, List.zipWith_nil_left, List.zipWith, inS, startU, List.map_cons, List.map_nil, List.length_cons, List.length_nil, Nat.reduceAdd, Nat.reduceSub, List.replicate, List.cons_append, List.nil_append, if_true, if_false, Bool.false_eq_true, reduceIte, Bool.not_true, Bool.not_false, cturn, bindW, okOwn, bindU, wipeU, backU, List.zip_cons_cons, List.zip_nil_right, List.foldl_cons, List.foldl_nil, uix_T0, uix_T1, uix_T2, uix_T3, uix_L0, dcT, dcF, Bool.true_and, Bool.and_true, Bool.and_self, Option.toList, Option.map_none, isi_tuple_N, isi_tuple_B, isi_tuple_I, isi_tuple_S, isi_tuple_T, isi_tuple_L, isi_tuple_D, isi_bool_N, isi_bool_B, isi_bool_I, isi_bool_S, isi_bool_T, isi_bool_L, isi_bool_D, isi_int_N, isi_int_B, isi_int_I, isi_int_S, isi_int_T, isi_int_L, isi_int_D, isi_str_N, isi_str_B, isi_str_I, isi_str_S, isi_str_T, isi_str_L, isi_str_D, isi_list_N, isi_list_B, isi_list_I, isi_list_S, isi_list_T, isi_list_L, isi_list_D, isi_dict_N, isi_dict_B, isi_dict_I, isi_dict_S, isi_dict_T, isi_dict_L, isi_dict_D])

/-! ### victory points -/
def encS (p : Int × Int) : U := .tup [.int p.1, .int p.2]
def absI (d : Int) : Int := if d < 0 then -d else d
def ableP (d : Int) (sc : List (Int × Int)) : List Int := sc.filterMap fun p => if absI d ≤ p.1 then some p.2 else none
def lastP (sc : List (Int × Int)) : Int := (sc.getLastD (0, 0)).2
def pts (d : Int) (sc : List (Int × Int)) : Int := ((ableP d sc).head?).getD (lastP sc)
def vpU (d : Int) (sc : List (Int × Int)) : U := if d < 0 then .tup [.int (20 - pts d sc), .int (pts d sc)] else .tup [.int (pts d sc), .int (20 - pts d sc)]
theorem fold_pts (d p : Int) : ∀ sc : List (Int × Int), sc.reverse.foldl (fun p q => if absI d ≤ q.1 then q.2 else p) p = ((ableP d sc).head?).getD p
  | [] => rfl
  | q :: sc => by
    rw [List.reverse_cons, List.foldl_append, fold_pts d p sc]
    simp only [ableP, List.filterMap_cons, List.foldl_cons, List.foldl_nil]
    by_cases h : absI d ≤ q.1
    · rw [if_pos h, if_pos h]; rfl
    · rw [if_neg h, if_neg h]
theorem last_at {sc : List (Int × Int)} (h : sc ≠ []) : (sc.map encS)[(sc.map encS).length - 1]? = some (.tup [.int (sc.getLastD (0, 0)).1, .int (lastP sc)]) := by
  rw [List.length_map, List.getElem?_map, ← List.getLast?_eq_getElem?, List.getLast?_eq_some_getLast h, List.getLastD_eq_getLast?, lastP, List.getLastD_eq_getLast?, List.getLast?_eq_some_getLast h]
  rfl
theorem sp_vp {k : Nat} {d : Int} {sc : List (Int × Int)} (hk : 1 ≤ k) (hs : sc ≠ []) : uF prog cls k 4 [.int d, .tup (sc.map encS)] = some (vpU d sc, []) := by
  obtain ⟨k, rfl⟩ : ∃ k', k = k' + 1 := ⟨k - 1, by omega⟩
  refine en_victory_points ?_
  unfold f_victory_points
  rotate_right
  rw [uix_last (last_at hs)]
  rotate_right
  refine bd_for (xs := (sc.map encS).reverse) (by
    simp only [ui_rev]
    rotate_right
    rfl) (fun i ρ => ∃ v4 v5, ρ = [.val (some (.int d)), .val (some (.tup (sc.map encS))), .val (some (.int (absI d))), .val (some (.int ((sc.reverse.take i).foldl (fun p q => if absI d ≤ q.1 then q.2 else p) (lastP sc)))), .val v4, .val v5])
    ⟨_, _, rfl⟩ ?_ ?_
  · rintro i x ρ hx ⟨v4, v5, rfl⟩
    rw [← List.map_reverse, List.getElem?_map] at hx
    obtain ⟨q, hq, rfl⟩ := Option.map_eq_some_iff.mp hx
    unfold encS
    rotate_right
    rw [List.take_add_one, hq, Option.toList_some, List.foldl_append]
    by_cases h : absI d ≤ q.1
    · rw [decide_eq_true h]
      rotate_right
      exact ⟨_, _, by rw [if_pos h]⟩
    · rw [decide_eq_false h]
      rotate_right
      exact ⟨_, _, by rw [if_neg h]⟩
  · rintro ρ ⟨v4, v5, rfl⟩
    rw [List.take_of_length_le (by simp), fold_pts]
    rotate_right
    unfold vpU pts
    by_cases h : d < 0
    · rw [decide_eq_true h, if_pos h]
      rotate_right
    · rw [decide_eq_false h, if_neg h]
      rotate_right
theorem sp_points {k : Nat} {d : Int} {sc : List (Int × Int)} (hk : 1 ≤ k) (hs : sc ≠ []) (hl : sc.length ≤ 1000) : uF prog cls k 11 [.int d, .tup (sc.map encS)] = some (vpU d sc, []) := by
  obtain ⟨k, rfl⟩ : ∃ k', k = k' + 1 := ⟨k - 1, by omega⟩
  refine en__law_points ?_
  unfold f__law_points
  rotate_right
  rw [u_compM (α := Int × Int) (β := Int) (enc := encS) (enc' := U.int) (by
    simp only [ui_val]
    rotate_right
    simp only [uiter]
    rotate_right
    rfl) (by show _ ≤ 16777216; omega) (fun p => if absI d ≤ p.1 then some p.2 else none) fun q hq => by
      unfold encS
      rotate_right
      by_cases h : absI d ≤ q.1
      · rw [if_pos h]
        unfold absI at h
        rw [decide_eq_true h]
        rotate_right
      · rw [if_neg h]
        unfold absI at h
        rw [decide_eq_false h]
        rotate_right]
  rw [show List.filterMap (fun p : Int × Int => if absI d ≤ p.1 then some p.2 else none) sc = ableP d sc from rfl]
  rotate_right
  rw [ucm_neL0 (n := 0) (by simp [okU]) (by omega)]
  unfold vpU pts
  cases ableP d sc with
  | nil =>
    rw [List.map_nil, List.isEmpty_nil]
    rotate_right
    rw [uix_T (k := (sc.map encS).length - 1) (by
      have : 0 < sc.length := List.length_pos_iff.mpr hs
      simp; omega) (last_at hs)]
    rotate_right
    rw [List.head?_nil, Option.getD_none]
    by_cases h : 0 ≤ d
    · rw [decide_eq_true h, if_neg (by omega)]
      rotate_right
    · rw [decide_eq_false h, if_pos (by omega)]
      rotate_right
  | cons p r =>
    rw [List.map_cons, List.isEmpty_cons]
    rotate_right
    rw [List.head?_cons, Option.getD_some]
    by_cases h : 0 ≤ d
    · rw [decide_eq_true h, if_neg (by omega)]
      rotate_right
    · rw [decide_eq_false h, if_pos (by omega)]
      rotate_right
end K67
end

section
set_option Elab.async false
set_option linter.all false
set_option maxRecDepth 100000
set_option maxHeartbeats 0
namespace K67
open PySem PySem.W PySem.SeqAt VL
open PL hiding St

local macro_rules | `(tactic| rotate_right) => `(tactic| simp -implicitDefEqProofs (disch := omega) only [Bd_cons, Bd_nil, Bd_ife, Bdb_T, Bdb_F, Bdt_mk, aft_nx, aft_rt, aft_bk, aft_ct, lp_nx, lp_rt, lp_bk, lp_ct, val_rt, val_nx, ex_rt, ex_nx, us_asg, us_asgO, us_asgS, us_asgT, us_aug, us_augS, us_ret, us_retN, us_expr, us_pass, us_brk, us_cont, u_var, u_own, u_mv, u_int, u_str, u_bl, u_non, u_tup, u_lst, u_dic, u_bin, u_neg, u_not, u_and, u_or, u_ife, u_cmp, u_chain, u_isN, u_call, u_bi, u_mt, u_ix, u_sl, u_nil, u_cons, u_oN, u_oS, u_cN, u_cS, u_and1, u_and2, u_or1, u_or2,
  ut_not, ut_and, ut_or, ut_ife, ut_isN, ut_chain, ut_cmp, ut_val, ut_and1, ut_and2, ut_or1, ut_or2, bd_mk, Bd_nx, Bd_rt, Bd_bk, Bd_ct, rdV, rdO, mvO, stV, stO_0, stOs_no, stOs_own, stOs_vn, wrO, wrE, wrs, rdA, rdAs, afterMt, recvU, isC_L, isC_D, utg, utgs, uInt, uBl, negU, isNU, truU,
  ubin_addI, ubin_subI, ubin_mulI, ubin_fdivI, ubin_modI, ubin_addT, ubin_addL, ucm_ltI, ucm_leI, ucm_gtI, ucm_geI, ubi_lenT, ubi_lenL, ubi_lenR, ubi_lenD, ubi_absI, ubi_intI, ubi_maxI, ubi_minI, ubi_list, ubi_tuple, itemsU, uaug_addI, uaug_subI,
  Option.bind_some, Option.map_some, ite_T, ite_F, List.getD_cons_zero, List.getD_cons_succ, List.set_cons_zero, List.set_cons_succ, List.zipWith_cons_cons, List.zipWith_nil_left, List.zipWith, inS, startU, List.map_cons, List.map_nil, List.length_cons, List.length_nil, Nat.reduceAdd, Nat.reduceSub, List.replicate, List.cons_append, List.nil_append, if_true, if_false, Bool.false_eq_true, reduceIte, Bool.not_true, Bool.not_false, cturn, bindW, okOwn, bindU, wipeU, backU, List.zip_cons_cons, List.zip_nil_right, List.foldl_cons, List.foldl_nil, uix_T0, uix_T1, uix_T2, uix_T3, uix_L0, dcT, dcF, Bool.true_and, Bool.and_true, Bool.and_self, Option.toList, Option.map_none, isi_tuple_N, isi_tuple_B, isi_tuple_I, isi_tuple_S, isi_tuple_T, isi_tuple_L, isi_tuple_D, isi_bool_N, isi_bool_B, isi_bool_I, isi_bool_S, isi_bool_T, isi_bool_L, isi_bool_D, isi_int_N, isi_int_B, isi_int_I, isi_int_S, isi_int_T, isi_int_L, isi_int_D, isi_str_N, isi_str_B, isi_str_I, isi_str_S, isi_str_T, isi_str_L, isi_str_D, isi_list_N, isi_list_B, isi_list_I, isi_list_S, isi_list_T, isi_list_L, isi_list_D, isi_dict_N, isi_dict_B, isi_dict_I, isi_dict_S, isi_dict_T, isi_dict_L, isi_dict_D])

/-! ### pairings, plainly -/
def pr : Nat → List Int → List (List (Int × Int))
  | 0, _ => []
  | _ + 1, [] => [[]]
  | n + 1, one :: r => (List.range r.length).flatMap fun k => (pr n (r.eraseIdx k)).map fun rows => (one, r.getD k 0) :: rows
def mm (a b : Int) : Int × Int := (if b < a then b else a, if b > a then b else a)
def free (met : List (Int × Int)) (p : Int × Int) : Bool := decide (mm p.1 p.2 ∉ met)
def sp : Nat → List (Int × Int) → List Int → Option (List (Int × Int))
  | 0, _, _ => none
  | _ + 1, _, [] => some []
  | n + 1, met, one :: r => (List.range r.length).findSome? fun k => if free met (one, r.getD k 0) = true then (sp n met (r.eraseIdx k)).map ((one, r.getD k 0) :: ·) else none
theorem sp_pr {met : List (Int × Int)} : ∀ (n : Nat) (order : List Int), sp n met order = ((pr n order).filter fun rows => rows.all (free met)).head?
  | 0, _ => rfl
  | _ + 1, [] => rfl
  | n + 1, one :: r => by
    simp only [sp, pr, List.filter_flatMap, List.head?_flatMap]
    congr 1
    funext k
    rw [sp_pr n, List.filter_map]
    by_cases h : free met (one, r.getD k 0) = true
    · rw [if_pos h]
      simp only [Function.comp_def, List.all_cons, h, Bool.true_and, List.head?_map]
    · rw [if_neg h]
      have hz : ∀ l : List (List (Int × Int)), l.filter (fun _ => false) = [] := fun l => by simp
      simp only [Function.comp_def, List.all_cons, h, Bool.false_and]
      rw [hz]; rfl
theorem fs_hit {α : Type} {f : Nat → Option α} {v : α} {i : Nat} (h0 : (List.range i).findSome? f = none) (h1 : f i = some v) : ∀ {m : Nat}, i < m → (List.range m).findSome? f = some v
  | 0, h => by omega
  | m + 1, h => by
    rw [List.range_succ, List.findSome?_append]
    by_cases hm : i = m
    · subst hm; rw [h0]; simp [h1]
    · rw [fs_hit h0 h1 (by omega : i < m)]; rfl
theorem fs_step {α : Type} {f : Nat → Option α} {i : Nat} (h0 : (List.range i).findSome? f = none) (h1 : f i = none) : (List.range (i + 1)).findSome? f = none := by
  rw [List.range_succ, List.findSome?_append, h0]; simp [h1]
theorem pr_row : ∀ {n : Nat} {order : List Int} {rows : List (Int × Int)}, rows ∈ pr n order → rows.length ≤ n
  | 0, _, _, h => by simp [pr] at h
  | n + 1, [], rows, h => by simp only [pr, List.mem_singleton] at h; subst h; simp
  | n + 1, one :: r, rows, h => by
    simp only [pr, List.mem_flatMap, List.mem_map] at h
    obtain ⟨k, _, rows', h, rfl⟩ := h
    have := pr_row h
    simp; omega
theorem sp_row {met : List (Int × Int)} {n : Nat} {order : List Int} {rows : List (Int × Int)} (h : sp n met order = some rows) : rows.length ≤ n := by
  rw [sp_pr] at h
  exact pr_row (List.mem_filter.mp (List.mem_of_head? h)).1
theorem fm_len {α : Type} {g : Nat → List α} {B : Nat} : ∀ {i : Nat}, (∀ k, k < i → (g k).length ≤ B) → ((List.range i).flatMap g).length ≤ i * B
  | 0, _ => by simp
  | i + 1, h => by
    rw [List.range_succ, List.flatMap_append, List.length_append]
    have h1 := fm_len (i := i) fun k hk => h k (by omega)
    have h2 := h i (by omega)
    simp only [List.flatMap_cons, List.flatMap_nil, List.append_nil]
    rw [Nat.add_mul]; omega
theorem pr_len : ∀ (n : Nat) (order : List Int), order.length ≤ 6 → (pr n order).length ≤ 6 ^ order.length
  | 0, order, _ => by simp [pr]
  | n + 1, [], _ => by simp [pr]
  | n + 1, one :: r, h => by
    simp only [pr]
    rw [List.length_cons] at h
    have := fm_len (i := r.length) (B := 6 ^ r.length) (g := fun k => (pr n (r.eraseIdx k)).map fun rows => (one, r.getD k 0) :: rows) fun k hk => by
      rw [List.length_map]
      refine Nat.le_trans (pr_len n _ (by rw [List.length_eraseIdx]; split <;> omega)) (Nat.pow_le_pow_right (by omega) ?_)
      rw [List.length_eraseIdx]; split <;> omega
    refine Nat.le_trans this ?_
    rw [Nat.pow_succ, Nat.mul_comm r.length]
    exact Nat.mul_le_mul_left _ (by omega)
/-! ### and in the text -/
def encO : Option (List (Int × Int)) → U
  | none => .non
  | some rows => .tup (rows.map encS)
theorem encS_inj {p q : Int × Int} (h : encS p = encS q) : p = q := by
  simp only [encS, U.tup.injEq, List.cons.injEq, U.int.injEq] at h
  exact Prod.ext h.1 h.2.1
theorem mem_enc {p : Int × Int} {met : List (Int × Int)} : encS p ∈ met.map encS ↔ p ∈ met :=
  ⟨fun h => by obtain ⟨q, h, e⟩ := List.mem_map.mp h; rwa [← encS_inj e], fun h => List.mem_map.mpr ⟨p, h, rfl⟩⟩
theorem ok_encS {met : List (Int × Int)} : ∀ y ∈ met.map encS, okU 1 y = true := fun y h => by
  obtain ⟨q, _, rfl⟩ := List.mem_map.mp h; rfl
theorem ni_met {a b : Int} {met : List (Int × Int)} : ucm .notin (.tup [.int (if b < a then b else a), .int (if b > a then b else a)]) (.tup (met.map encS)) = some (free met (a, b)) := by
  rw [ucm_niT 1 rfl ok_encS (by omega)]
  unfold free
  congr 1
  rw [Bool.eq_iff_iff]
  simp only [Bool.not_eq_true', decide_eq_false_iff_not, decide_eq_true_eq]
  exact not_congr (mem_enc (p := mm a b))
theorem in_met {a b : Int} {met : List (Int × Int)} : ucm .isin (.tup [.int (if b < a then b else a), .int (if b > a then b else a)]) (.lst (met.map encS)) = some (decide (mm a b ∈ met)) := by
  rw [ucm_inL 1 rfl ok_encS (by omega)]
  congr 1
  rw [Bool.eq_iff_iff]
  simp only [decide_eq_true_eq]
  exact mem_enc (p := mm a b)
theorem cut1 {x : U} {ys : List U} {i : Nat} (h : i < ys.length) : usl (.tup (x :: ys)) (some 1) (some (1 + (i : Int) * 1)) = some (.tup (ys.take i)) := by
  rw [usl_T, cutD, cutIx, cutIx]
  rw [if_neg (by omega), if_neg (by omega), show min (1 : Int).toNat (x :: ys).length = 1 by simp, show min (1 + (i : Int) * 1).toNat (x :: ys).length = i + 1 by rw [List.length_cons]; omega]
  rfl
theorem cut2 {x : U} {ys : List U} {i : Nat} (h : i < ys.length) : usl (.tup (x :: ys)) (some (1 + (i : Int) * 1 + 1)) none = some (.tup (ys.drop (i + 1))) := by
  rw [usl_T, cutD, cutIx, cutIx]
  rw [if_neg (by omega), show min (1 + (i : Int) * 1 + 1).toNat (x :: ys).length = i + 2 by rw [List.length_cons]; omega]
  rw [List.take_of_length_le (by simp)]
  rfl
theorem cut3 {r : List Int} {i : Nat} (hl : r.length ≤ 1000) : ubin .add (.tup ((r.map U.int).take i)) (.tup ((r.map U.int).drop (i + 1))) = some (.tup ((r.eraseIdx i).map U.int)) := by
  rw [ubin_addT (by simp; omega), List.eraseIdx_eq_take_drop_succ, List.map_append, List.map_take, List.map_drop]
theorem sp_swiss {met : List (Int × Int)} : ∀ (n k : Nat) (order : List Int), n ≤ k → order.length < n → n ≤ 1000 → uF prog cls k 5 [.tup (order.map U.int), .tup (met.map encS)] = some (encO (sp n met order), [])
  | 0, _, order, _, h, _ => by omega
  | n + 1, k, order, hk, hn, hb => by
    obtain ⟨k, rfl⟩ : ∃ k', k = k' + 1 := ⟨k - 1, by omega⟩
    refine en_swiss_pairs ?_
    unfold f_swiss_pairs
    rotate_right
    rw [ucm_eq 1 (by simp [okU]) rfl (by omega)]
    cases order with
    | nil =>
      rw [decide_eq_true (by simp)]
      rotate_right
      rfl
    | cons one r =>
      rw [decide_eq_false (by simp)]
      rw [List.length_cons] at hn
      rotate_right
      refine bd_for (xs := rangeU 1 r.length 1) (by
        simp only [ui_rng]
        rotate_right
        rw [rngU2 (by simp; omega)]; simp) (fun i ρ => (List.range i).findSome? (fun k => if free met (one, r.getD k 0) = true then (sp n met (r.eraseIdx k)).map ((one, r.getD k 0) :: ·) else none) = none ∧ ∃ v3 v4 v5, ρ = [.val (some (.tup (U.int one :: r.map U.int))), .val (some (.tup (met.map encS))), .val (some (.int one)), .val v3, .val v4, .val v5])
        ⟨rfl, none, none, none, rfl⟩ ?_ ?_
      · rintro i x ρ hx ⟨hf, v3, v4, v5, rfl⟩
        obtain ⟨hi, rfl⟩ := rangeU_at hx
        have hg : r[i]? = some (r.getD i 0) := by rw [List.getD_eq_getElem?_getD, List.getElem?_eq_getElem hi]; rfl
        rotate_right
        rw [uix_T (k := i + 1) (x := .int (r.getD i 0)) (by omega) (by rw [List.getElem?_cons_succ, List.getElem?_map, hg]; rfl)]
        rotate_right
        rw [ni_met]
        cases hfr : free met (one, r.getD i 0) with
        | false =>
          rotate_right
          exact ⟨fs_step hf (by simp only [hfr]; rfl), _, _, _, rfl⟩
        | true =>
          rotate_right
          rw [cut1 (by simpa using hi)]
          rotate_right
          rw [cut2 (by simpa using hi)]
          rotate_right
          rw [cut3 (by omega)]
          rotate_right
          rw [sp_swiss n k (r.eraseIdx i) (by omega) (by rw [List.length_eraseIdx]; split <;> omega) (by omega)]
          rotate_right
          cases hsp : sp n met (r.eraseIdx i) with
          | none =>
            unfold encO
            rotate_right
            exact ⟨fs_step hf (by simp only [hfr, hsp]; rfl), _, _, _, rfl⟩
          | some rows =>
            have := sp_row hsp
            unfold encO
            rotate_right
            rw [ubin_addT (by simp; omega)]
            rotate_right
            simp only [sp]
            rw [fs_hit hf (by simp only [hfr, hsp]; rfl) hi]
            rfl
      · rintro ρ ⟨hf, v3, v4, v5, rfl⟩
        rw [rangeU_len] at hf
        rotate_right
        simp only [sp]
        rw [hf]
        rfl
def encR (rows : List (Int × Int)) : U := .tup (rows.map encS)
theorem sp_pairings : ∀ (n k : Nat) (order : List Int), n ≤ k → order.length < n → order.length ≤ 6 → n ≤ 1000 → uF prog cls k 10 [.tup (order.map U.int)] = some (.lst ((pr n order).map encR), [])
  | 0, _, order, _, h, _, _ => by omega
  | n + 1, k, order, hk, hn, h6, hb => by
    obtain ⟨k, rfl⟩ : ∃ k', k = k' + 1 := ⟨k - 1, by omega⟩
    refine en__law_pairings ?_
    unfold f__law_pairings
    rotate_right
    rw [ucm_eq 1 (by simp [okU]) rfl (by omega)]
    cases order with
    | nil =>
      rw [decide_eq_true (by simp)]
      rotate_right
      rfl
    | cons one r =>
      rw [decide_eq_false (by simp)]
      rw [List.length_cons] at hn h6
      rotate_right
      refine bd_for (xs := rangeU 1 r.length 1) (by
        simp only [ui_rng]
        rotate_right
        rw [rngU2 (by simp; omega)]; simp) (fun i ρ => ∃ v2 v3, ρ = [.val (some (.tup (U.int one :: r.map U.int))), .val (some (.lst (((List.range i).flatMap fun k => (pr n (r.eraseIdx k)).map fun rows => (one, r.getD k 0) :: rows).map encR))), .val v2, .val v3])
        ⟨none, none, rfl⟩ ?_ ?_
      · rintro i x ρ hx ⟨v2, v3, rfl⟩
        obtain ⟨hi, rfl⟩ := rangeU_at hx
        have hg : r[i]? = some (r.getD i 0) := by rw [List.getD_eq_getElem?_getD, List.getElem?_eq_getElem hi]; rfl
        have hix : uix (.tup (U.int one :: r.map U.int)) (.int (1 + (i : Int) * 1)) = some (.int (r.getD i 0)) := uix_T (k := i + 1) (by omega) (by rw [List.getElem?_cons_succ, List.getElem?_map, hg]; rfl)
        have hlen : ∀ k, ((pr n (r.eraseIdx k)).map fun rows => (one, r.getD k 0) :: rows).length ≤ 6 ^ 5 := fun k => by
          rw [List.length_map]
          refine Nat.le_trans (pr_len n _ (by rw [List.length_eraseIdx]; split <;> omega)) (Nat.pow_le_pow_right (by omega) ?_)
          rw [List.length_eraseIdx]; split <;> omega
        have hl1 := fm_len (i := i) fun k _ => hlen k
        have hl2 := hlen i
        rw [List.length_map] at hl2
        rotate_right
        rw [u_compM (α := List (Int × Int)) (β := List (Int × Int)) (xs := pr n (r.eraseIdx i)) (enc := encR) (enc' := encR) (by
          simp only [ui_val]
          rotate_right
          rw [cut1 (by simpa using hi)]
          rotate_right
          rw [cut2 (by simpa using hi)]
          rotate_right
          rw [cut3 (by omega)]
          rotate_right
          rw [sp_pairings n k (r.eraseIdx i) (by omega) (by rw [List.length_eraseIdx]; split <;> omega) (by rw [List.length_eraseIdx]; split <;> omega) (by omega)]
          rotate_right
          rfl) (by show _ ≤ 16777216; omega) (fun rows => some ((one, r.getD i 0) :: rows)) fun rows hr => by
            have := pr_row hr
            unfold encR
            rotate_right
            rw [hix]
            rotate_right
            rw [ubin_addT (by simp; omega)]
            rotate_right
            rfl]
        rotate_right
        rw [ubin_addL (by simp only [List.length_map, List.filterMap_eq_map']; simp at hl1 ⊢; omega)]
        rotate_right
        have hL : (((List.range i).flatMap fun k => (pr n (r.eraseIdx k)).map fun rows => (one, r.getD k 0) :: rows).map encR) ++ ((pr n (r.eraseIdx i)).filterMap fun rows => some ((one, r.getD i 0) :: rows)).map encR = (((List.range (i + 1)).flatMap fun k => (pr n (r.eraseIdx k)).map fun rows => (one, r.getD k 0) :: rows).map encR) := by
          rw [List.range_succ, List.flatMap_append, List.map_append, List.filterMap_eq_map']
          simp
        rw [hL]
        exact ⟨_, _, rfl⟩
      · rintro ρ ⟨v2, v3, rfl⟩
        rw [rangeU_len]
        rotate_right
        simp only [pr]
end K67
end

section
set_option Elab.async false
set_option linter.all false
set_option maxRecDepth 100000
set_option maxHeartbeats 0
namespace K67
open PySem PySem.W PySem.SeqAt VL
open PL hiding St

local macro_rules | `(tactic| rotate_right) => `(tactic| simp -implicitDefEqProofs (disch := omega) only [Bd_cons, Bd_nil, Bd_ife, Bdb_T, Bdb_F, Bdt_mk, aft_nx, aft_rt, aft_bk, aft_ct, lp_nx, lp_rt, lp_bk, lp_ct, val_rt, val_nx, ex_rt, ex_nx, us_asg, us_asgO, us_asgS, us_asgT, us_aug, us_augS, us_ret, us_retN, us_expr, us_pass, us_brk, us_cont, u_var, u_own, u_mv, u_int, u_str, u_bl, u_non, u_tup, u_lst, u_dic, u_bin, u_neg, u_not, u_and, u_or, u_ife, u_cmp, u_chain, u_isN, u_call, u_bi, u_mt, u_ix, u_sl, u_nil, u_cons, u_oN, u_oS, u_cN, u_cS, u_and1, u_and2, u_or1, u_or2,
  ut_not, ut_and, ut_or, ut_ife, ut_isN, ut_chain, ut_cmp, ut_val, ut_and1, ut_and2, ut_or1, ut_or2, bd_mk, Bd_nx, Bd_rt, Bd_bk, Bd_ct, rdV, rdO, mvO, stV, stO_0, stOs_no, stOs_own, stOs_vn, wrO, wrE, wrs, rdA, rdAs, afterMt, recvU, isC_L, isC_D, utg, utgs, uInt, uBl, negU, isNU, truU,
  ubin_addI, ubin_subI, ubin_mulI, ubin_fdivI, ubin_modI, ubin_addT, ubin_addL, ucm_ltI, ucm_leI, ucm_gtI, ucm_geI, ubi_lenT, ubi_lenL, ubi_lenR, ubi_lenD, ubi_absI, ubi_intI, ubi_maxI, ubi_minI, ubi_list, ubi_tuple, itemsU, uaug_addI, uaug_subI,
  Option.bind_some, Option.map_some, ite_T, ite_F, List.getD_cons_zero, List.getD_cons_succ, List.set_cons_zero, List.set_cons_succ, List.zipWith_cons_cons, List.zipWith_nil_left, List.zipWith, inS, startU, List.map_cons, List.map_nil, List.length_cons, List.length_nil, Nat.reduceAdd, Nat.reduceSub, List.replicate, List.cons_append, List.nil_append, if_true, if_false, Bool.false_eq_true, reduceIte, Bool.not_true, Bool.not_false, cturn, bindW, okOwn, bindU, wipeU, backU, List.zip_cons_cons, List.zip_nil_right, List.foldl_cons, List.foldl_nil, uix_T0, uix_T1, uix_T2, uix_T3, uix_L0, dcT, dcF, Bool.true_and, Bool.and_true, Bool.and_self, Option.toList, Option.map_none, isi_tuple_N, isi_tuple_B, isi_tuple_I, isi_tuple_S, isi_tuple_T, isi_tuple_L, isi_tuple_D, isi_bool_N, isi_bool_B, isi_bool_I, isi_bool_S, isi_bool_T, isi_bool_L, isi_bool_D, isi_int_N, isi_int_B, isi_int_I, isi_int_S, isi_int_T, isi_int_L, isi_int_D, isi_str_N, isi_str_B, isi_str_I, isi_str_S, isi_str_T, isi_str_L, isi_str_D, isi_list_N, isi_list_B, isi_list_I, isi_list_S, isi_list_T, isi_list_L, isi_list_D, isi_dict_N, isi_dict_B, isi_dict_I, isi_dict_S, isi_dict_T, isi_dict_L, isi_dict_D])

/-! ### the law's own text -/
theorem next {i : Int} {xs : List U} {a k : Nat} (dr : Dr xs) (hl : xs.length ≤ 1000) (hi : 0 < i) (hk : 1 ≤ k) : ∃ r : Nat, (r : Int) < i ∧ uF prog cls k 7 [wU xs a, .int i] = some (.int r, [some (wU xs (a + 1)), none]) := by
  obtain ⟨r, hr, e⟩ := sp_next (P := prog) (Γ := cls) (j := 7) (k := k) (m := i.toNat) (a := a) rfl rfl hk dr hl (by omega)
  refine ⟨r, by omega, ?_⟩
  rw [← e, show ((i.toNat : Nat) : Int) = i by omega]
theorem in_law {C : Cv} {xs : List Int} {own : Int} {ns : List Int} {s1 s8 s10 : Sl} {v2 v4 v5 v6 v9 v11 v12 v13 v14 v15 v16 v17 v18 v19 v20 v21 : Option U} (hl : xs.length ≤ 1000) : uE C (.comp (.var 6) [6] false (.val (.var 3)) (some (.cmp .gt (.var 6) (.var 7))) [6]) [.val (some (.rol (ns.map U.int))), s1, .val v2, .val (some (.tup (xs.map U.int))), .val v4, .val v5, .val v6, .val (some (.int own)), s8, .val v9, s10, .val v11, .val v12, .val v13, .val v14, .val v15, .val v16, .val v17, .val v18, .val v19, .val v20, .val v21] = some (.lst ((above own xs).map U.int), [.val (some (.rol (ns.map U.int))), s1, .val v2, .val (some (.tup (xs.map U.int))), .val v4, .val v5, .val v6, .val (some (.int own)), s8, .val v9, s10, .val v11, .val v12, .val v13, .val v14, .val v15, .val v16, .val v17, .val v18, .val v19, .val v20, .val v21]) := by
  unfold above
  refine u_compM (α := Int) (β := Int) (enc := U.int) (enc' := U.int) (by
    simp only [ui_val]
    rotate_right
    simp only [uiter]
    rotate_right
    rfl) (by show _ ≤ 16777216; omega) (fun n => if own < n then some n else none) fun x hx => ?_
  rotate_right
  by_cases h : own < x
  · rw [decide_eq_true h, if_pos h]
    rotate_right
  · rw [decide_eq_false h, if_neg h]
    rotate_right

theorem okA_ints {xs : List Int} {n : Nat} (h : xs.length ≤ 1000) : okA (n + 1) (.tup (xs.map U.int)) = true :=
  okA_tup (by simpa using h) fun x hx => by obtain ⟨j, _, rfl⟩ := List.mem_map.mp hx; exact okA_int
theorem okA_fr {t n : Nat} : okA (n + 1) (fr t) = true := by
  unfold fr
  split <;> exact okA_tup (by simp) fun x hx => by
    simp only [List.mem_cons, List.not_mem_nil, or_false] at hx
    rcases hx with rfl | rfl <;> exact okA_int
theorem okA_vp {d : Int} {sc : List (Int × Int)} {n : Nat} : okA (n + 1) (vpU d sc) = true := by
  unfold vpU
  split <;> exact okA_tup (by simp) fun x hx => by
    simp only [List.mem_cons, List.not_mem_nil, or_false] at hx
    rcases hx with rfl | rfl <;> exact okA_int
theorem left_step' {od : List Int} {y : Int} : ∀ {lf : List Int}, (∀ x ∈ lf, x ∉ od) → lf.filterMap (fun x => if x ∉ od ++ [y] then some x else none) = lf.filter (fun x => x != y)
  | [], _ => rfl
  | x :: lf, hd => by
    rw [List.filterMap_cons, List.filter_cons, left_step' fun z hz => hd z (by simp [hz])]
    have := hd x (by simp)
    by_cases h : x = y <;> simp [this, h]
theorem left_step {lf od : List Int} {y : Int} (hn : lf.Nodup) (hd : ∀ x ∈ lf, x ∉ od) : lf.filterMap (fun x => if x ∉ od ++ [y] then some x else none) = lf.erase y := by
  rw [hn.erase_eq_filter, left_step' hd]
theorem all_free {met rows : List (Int × Int)} : ((rows.filterMap fun p => if mm p.1 p.2 ∈ met then some () else none).map fun _ => U.int 1).isEmpty = rows.all (free met) := by
  induction rows with
  | nil => rfl
  | cons p rows ih =>
    rw [List.filterMap_cons, List.all_cons, ← ih]
    unfold free
    by_cases h : mm p.1 p.2 ∈ met
    · simp [h]
    · simp [h]
theorem encS_def (p : Int × Int) : encS p = .tup [.int p.1, .int p.2] := rfl
theorem okA_encO {o : Option (List (Int × Int))} {n : Nat} (h : ∀ rows, o = some rows → rows.length ≤ 1000) : okA (n + 2) (encO o) = true := by
  cases o with
  | none => rfl
  | some rows =>
    exact okA_tup (by simpa using h rows rfl) fun x hx => by
      obtain ⟨p, _, rfl⟩ := List.mem_map.mp hx
      exact okA_tup (by simp) fun y hy => by
        simp only [List.mem_cons, List.not_mem_nil, or_false] at hy
        rcases hy with rfl | rfl <;> exact okA_int
theorem ok_encR {l : List (List (Int × Int))} : ∀ x ∈ l.map encR, okU 2 x = true := fun x h => by
  obtain ⟨rows, _, rfl⟩ := List.mem_map.mp h
  simp only [encR, okU, List.all_eq_true]
  exact ok_encS
theorem listR_ok {m : Nat} (h : m ≤ 1000) {i : Int} (hi : i = m) : ubi (.listR 1) [.int i] = some (.lst (((List.range m).map fun k : Nat => (k : Int)).map U.int)) := by
  subst hi
  have h2 : m ≤ lim := by show _ ≤ 16777216; omega
  simp only [ubi]
  rw [rngU1 (by omega)]
  simp only [Option.bind_some, Int.toNat_natCast, h2, if_true, rangeU, List.map_map]
  congr 3
  funext k
  simp
def Inv (ns : List Int) (xs : List U) (ρ : PL.Env) : Prop := ∃ (a : Nat) (s8 s10 : Sl) (v2 v3 v4 v5 v6 v7 v9 v11 v12 v13 v14 v15 v16 v17 v18 v19 v20 v21 : Option U), Jk s8 ∧ Jk s10 ∧ ρ = [.val (some (.rol (ns.map U.int))), .own (wU xs a), .val v2, .val v3, .val v4, .val v5, .val v6, .val v7, s8, .val v9, s10, .val v11, .val v12, .val v13, .val v14, .val v15, .val v16, .val v17, .val v18, .val v19, .val v20, .val v21]
theorem law_true {ns : List Int} (hl : ns.length ≤ 63) : uF prog cls 40 12 [.rol (ns.map U.int)] = some (.bl true, []) := by
  refine en_law ?_
  unfold f_law
  rotate_right
  obtain ⟨xs, e0, dr, hx⟩ := sp_draws (P := prog) (Γ := cls) (j := 6) (k := 39) (many := 500) (ns := ns) rfl rfl (by omega) hl (by omega)
  rw [show ((500 : Nat) : Int) = 500 from rfl] at e0
  rw [e0]
  rotate_right
  have hx2 : xs.length ≤ 1000 := by omega
  have alike1 : ∀ (n : Nat) (v : U), okA n v = true → n ≤ 5 → uF prog cls 39 9 [v, v] = some (.bl true, []) := fun n v h hn => sp_alike (P := prog) (Γ := cls) (j := 9) rfl rfl n v 39 h (by omega)
  refine bd_for (xs := rangeU 0 8 1) (by
    simp only [ui_rng]
    rotate_right
    rw [rngU1 (by omega)]; rfl) (fun i ρ => Inv ns xs ρ)
    ⟨0, .val none, .val none, none, none, none, none, none, none, none, none, none, none, none, none, none, none, none, none, none, none, Jk.n, Jk.n, rfl⟩ ?_ ?_
  · rintro i x ρ hx' ⟨a, s8, s10, v2, v3, v4, v5, v6, v7, v9, v11, v12, v13, v14, v15, v16, v17, v18, v19, v20, v21, j8, j10, rfl⟩
    obtain ⟨hi, rfl⟩ := rangeU_at hx'
    rotate_right
    -- the scores
    have hsc : ∃ (sc : List Int) (a1 : Nat), sc.length ≤ 8 ∧ uE (uF prog cls 39) (.comp (.call 7 [(.own 1), (.int 5)]) [4] false (.rng [(.call 7 [(.own 1), (.int 8)])]) none [4]) [.val (some (.rol (ns.map U.int))), .own (wU xs a), .val (some (.int (0 + (i : Int) * 1))), .val v3, .val v4, .val v5, .val v6, .val v7, s8, .val v9, s10, .val v11, .val v12, .val v13, .val v14, .val v15, .val v16, .val v17, .val v18, .val v19, .val v20, .val v21] = some (.lst (sc.map U.int), [.val (some (.rol (ns.map U.int))), .own (wU xs a1), .val (some (.int (0 + (i : Int) * 1))), .val v3, .val v4, .val v5, .val v6, .val v7, s8, .val v9, s10, .val v11, .val v12, .val v13, .val v14, .val v15, .val v16, .val v17, .val v18, .val v19, .val v20, .val v21]) := by
      obtain ⟨r, hr, e1⟩ := next (i := 8) (a := a) (k := 39) dr hx2 (by omega) (by omega)
      obtain ⟨out, ρ', e2, sc, a1, rfl, h1, rfl⟩ := u_compR (C := uF prog cls 39) (el := (.call 7 [(.own 1), (.int 5)])) (tg := [4]) (own := [4]) (tup := false) (cond := none) (it := .rng [(.call 7 [(.own 1), (.int 8)])]) (xs := rangeU 0 r 1) (ρ := [.val (some (.rol (ns.map U.int))), .own (wU xs a), .val (some (.int (0 + (i : Int) * 1))), .val v3, .val v4, .val v5, .val v6, .val v7, s8, .val v9, s10, .val v11, .val v12, .val v13, .val v14, .val v15, .val v16, .val v17, .val v18, .val v19, .val v20, .val v21]) (by
        simp only [ui_rng]
        rotate_right
        rw [e1]
        rotate_right
        rw [rngU1 (by omega)]; rfl) (by rw [rangeU_len]; show _ ≤ 16777216; omega) (fun i' out ρ => ∃ (sc : List Int) (a1 : Nat), out = sc.map U.int ∧ sc.length = i' ∧ ρ = [.val (some (.rol (ns.map U.int))), .own (wU xs a1), .val (some (.int (0 + (i : Int) * 1))), .val v3, .val v4, .val v5, .val v6, .val v7, s8, .val v9, s10, .val v11, .val v12, .val v13, .val v14, .val v15, .val v16, .val v17, .val v18, .val v19, .val v20, .val v21]) ⟨[], a + 1, rfl, rfl, rfl⟩ (by
          rintro i' x out ρ hx' ⟨sc, a1, rfl, h1, rfl⟩
          obtain ⟨r', hr', e3⟩ := next (i := 5) (a := a1) (k := 39) dr hx2 (by omega) (by omega)
          refine ⟨some (.int r'), [.val (some (.rol (ns.map U.int))), .own (wU xs (a1 + 1)), .val (some (.int (0 + (i : Int) * 1))), .val v3, .val v4, .val v5, .val v6, .val v7, s8, .val v9, s10, .val v11, .val v12, .val v13, .val v14, .val v15, .val v16, .val v17, .val v18, .val v19, .val v20, .val v21], ?_, sc ++ [(r' : Int)], a1 + 1, ?_, ?_, rfl⟩
          · rotate_right
            rw [e3]
            rotate_right
          · simp
          · simp; omega)
      rw [rangeU_len] at h1
      exact ⟨sc, a1, by omega, e2⟩
    obtain ⟨sc, a1, hsl, e1⟩ := hsc
    rw [e1]
    rotate_right
    clear e1
    have hl1000 : sc.length ≤ 1000 := by omega
    rw [u_compM (α := Int) (β := Int) (xs := sc) (enc := U.int) (enc' := U.int) (by
      simp only [ui_val]
      rotate_right
      simp only [uiter]
      rotate_right
      rfl) (by show _ ≤ 16777216; omega) (fun own => some (1 + ((above own sc).length : Int))) fun x hx => by
        rotate_right
        rw [in_law hl1000]
        rotate_right
        simp]
    rw [show (sc.filterMap fun own => some (1 + ((above own sc).length : Int))) = ranks sc by simp [ranks]]
    rotate_right
    rw [sp_ranks (by omega) hl1000]
    rotate_right
    rw [alike1 1 _ (okA_ints (by simpa [ranks] using hl1000)) (by omega)]
    rotate_right
    rw [stOs_jk j8 rfl]
    rotate_right
    refine bd_for (xs := rangeU 0 sc.length 1) (by
      simp only [ui_rng]
      rotate_right
      rw [rngU1 (by simp; omega)]; simp) (fun i' ρ => ∃ v4 v9, ρ = [.val (some (.rol (ns.map U.int))), .own (wU xs a1), .val (some (.int (0 + (i : Int) * 1))), .val (some (.tup (sc.map U.int))), .val v4, .val (some (.lst ((ranks sc).map U.int))), .val v6, .val v7, .own (.lst ((shared sc).take i')), .val v9, s10, .val v11, .val v12, .val v13, .val v14, .val v15, .val v16, .val v17, .val v18, .val v19, .val v20, .val v21]) ⟨v4, v9, rfl⟩ ?_ ?_
    · rintro i' x ρ hx' ⟨v4', v9', rfl⟩
      obtain ⟨hi', rfl⟩ := rangeU_at hx'
      have hr : uix (.lst ((ranks sc).map U.int)) (.int (0 + (i' : Int) * 1)) = some (.int (1 + ((above sc[i'] sc).length : Int))) := uix_L (k := i') (by omega) (by simp [ranks, hi'])
      have hs : uix (.tup (sc.map U.int)) (.int (0 + (i' : Int) * 1)) = some (.int sc[i']) := uix_T (k := i') (by omega) (by simp [hi'])
      have hsh : (shared sc)[i']? = some (fr (2 * (above sc[i'] sc).length + sc.count sc[i'] + 1)) := by simp [shared, hi']
      have hT : 2 * (1 + ((above sc[i'] sc).length : Int)) + (sc.count sc[i'] : Nat) - 1 = ((2 * (above sc[i'] sc).length + sc.count sc[i'] + 1 : Nat) : Int) := by omega
      rotate_right
      rw [hr]
      rotate_right
      rw [hs]
      rotate_right
      rw [umt_countI]
      rotate_right
      rw [hT]
      generalize 2 * (above sc[i'] sc).length + sc.count sc[i'] + 1 = T at hsh
      rw [ubin_band (by omega)]
      rotate_right
      rw [ucm_eqI]
      have hL : (shared sc).take i' ++ [fr T] = (shared sc).take (i' + 1) := by rw [List.take_add_one, hsh]; rfl
      by_cases h : T % 2 = 0
      · rw [decide_eq_true (by omega)]
        rotate_right
        rw [umt_app (by simp [shared]; omega)]
        rotate_right
        rw [← hL]
        unfold fr
        rw [if_pos h]
        exact ⟨_, _, rfl⟩
      · rw [decide_eq_false (by omega)]
        rotate_right
        rw [umt_app (by simp [shared]; omega)]
        rotate_right
        rw [← hL]
        unfold fr
        rw [if_neg h]
        exact ⟨_, _, rfl⟩
    · rintro ρ ⟨v4, v9, rfl⟩
      rw [rangeU_len, List.take_of_length_le (by simp [shared])]
      rotate_right
      rw [sp_shared (by omega) hl1000]
      rotate_right
      rw [alike1 2 _ (okA_tup (by simpa [shared] using hl1000) fun x hx => by obtain ⟨j, _, rfl⟩ := List.mem_map.mp hx; exact okA_fr) (by omega)]
      rotate_right
      obtain ⟨r4, hr4, e4⟩ := next (i := 4) (a := a1) (k := 39) dr hx2 (by omega) (by omega)
      rw [e4]
      rotate_right
      rw [stOs_jk j10 rfl]
      rotate_right
      obtain ⟨r5, hr5, e5⟩ := next (i := 5) (a := a1 + 1) (k := 39) dr hx2 (by omega) (by omega)
      refine bd_for (xs := rangeU 0 r5 1) (by
        simp only [ui_rng]
        rotate_right
        rw [e5]
        rotate_right
        rw [rngU1 (by omega)]; simp) (fun i' ρ => ∃ (a : Nat) (st : List Int) (v4 : Option U), st.length = i' + 1 ∧ ρ = [.val (some (.rol (ns.map U.int))), .own (wU xs a), .val (some (.int (0 + (i : Int) * 1))), .val (some (.tup (sc.map U.int))), .val v4, .val (some (.lst ((ranks sc).map U.int))), .val v6, .val v7, .own (.lst (shared sc)), .val v9, .own (.lst (st.map U.int)), .val v11, .val v12, .val v13, .val v14, .val v15, .val v16, .val v17, .val v18, .val v19, .val v20, .val v21]) ⟨a1 + 1 + 1, [(r4 : Int)], v4, rfl, rfl⟩ ?_ ?_
      · rintro i' x ρ hx' ⟨a2, st, v4', hst, rfl⟩
        obtain ⟨hi', rfl⟩ := rangeU_at hx'
        have hs : uix (.lst (st.map U.int)) (.int (0 + (i' : Int) * 1)) = some (.int (st.getD i' 0)) := uix_L (k := i') (by omega) (by simp [show i' < st.length by omega])
        obtain ⟨r6, hr6, e6⟩ := next (i := 6) (a := a2) (k := 39) dr hx2 (by omega) (by omega)
        rotate_right
        rw [hs]
        rotate_right
        rw [e6]
        rotate_right
        rw [umt_app (by simp; omega)]
        rotate_right
        rw [show st.map U.int ++ [.int (st.getD i' 0 + 1 + (r6 : Int))] = (st ++ [st.getD i' 0 + 1 + (r6 : Int)]).map U.int by rw [List.map_append]; rfl]
        exact ⟨_, _, _, by simp; omega, rfl⟩
      · rintro ρ ⟨a2, st, v4, hst, rfl⟩
        rw [rangeU_len] at hst
        rotate_right
        have hs : ∀ k : Nat, k < st.length → ∀ j : Int, j = k → uix (.lst (st.map U.int)) (.int j) = some (.int (st.getD k 0)) := fun k hk j hj => uix_L (k := k) hj (by simp [hk])
        rw [u_compM (α := Nat) (β := Int × Int) (xs := List.range st.length) (enc := fun (k : Nat) => U.int (0 + (k : Int) * 1)) (enc' := encS) (by
          simp only [ui_rng]
          rotate_right
          rw [rngU1 (by simp; omega), List.length_map]
          rfl) (by rw [List.length_range]; show _ ≤ 16777216; omega) (fun k => some (st.getD k 0, 10 + (0 + (k : Int) * 1))) fun k hk => by
            rotate_right
            rw [hs k (List.mem_range.mp hk) _ (by omega)]
            rotate_right
            rfl]
        generalize hsca : ((List.range st.length).filterMap fun k => some (st.getD k 0, 10 + (0 + (k : Int) * 1))) = sca
        have hscl : sca.length = st.length := by rw [← hsca]; simp
        have hne : sca ≠ [] := by intro h; rw [h] at hscl; simp at hscl; omega
        rotate_right
        obtain ⟨r41, hr41, e41⟩ := next (i := 41) (a := a2) (k := 39) dr hx2 (by omega) (by omega)
        refine bd_for (xs := [.int ((r41 : Int) - 20), .int 0, .int (st.getD 0 0), .int (-(st.getD (st.length - 1) 0) - 1)]) (by
          simp only [ui_val]
          rotate_right
          rw [e41]
          rotate_right
          rw [hs 0 (by omega) 0 rfl]
          rotate_right
          rw [hs (st.length - 1) (by omega) (((st.map U.int).length : Int) - 1) (by rw [List.length_map]; omega)]
          rotate_right
          simp only [uiter]
          rotate_right
          rfl) (fun i' ρ => ∃ v12, ρ = [.val (some (.rol (ns.map U.int))), .own (wU xs (a2 + 1)), .val (some (.int (0 + (i : Int) * 1))), .val (some (.tup (sc.map U.int))), .val v4, .val (some (.lst ((ranks sc).map U.int))), .val v6, .val v7, .own (.lst (shared sc)), .val v9, .own (.lst (st.map U.int)), .val (some (.tup (sca.map encS))), .val v12, .val v13, .val v14, .val v15, .val v16, .val v17, .val v18, .val v19, .val v20, .val v21]) ⟨v12, rfl⟩ ?_ ?_
        · rintro i' x ρ hx' ⟨v12', rfl⟩
          obtain ⟨d, rfl⟩ : ∃ d, x = .int d := by
            have h := List.mem_of_getElem? hx'
            simp only [List.mem_cons, List.not_mem_nil, or_false] at h
            rcases h with rfl | rfl | rfl | rfl <;> exact ⟨_, rfl⟩
          rotate_right
          rw [sp_vp (by omega) hne]
          rotate_right
          rw [sp_points (by omega) hne (by omega)]
          rotate_right
          rw [alike1 1 _ okA_vp (by omega)]
          rotate_right
          exact ⟨_, rfl⟩
        · rintro ρ ⟨v12, rfl⟩
          rotate_right
          obtain ⟨rm, hrm, em⟩ := next (i := 4) (a := a2 + 1) (k := 39) dr hx2 (by omega) (by omega)
          rw [em]
          rotate_right
          rw [listR_ok (m := 2 * rm) (by omega) (by omega)]
          rotate_right
          refine bd_for (xs := rangeU 0 (2 * rm) 1) (by
            simp only [ui_rng]
            rotate_right
            rw [rngU1 (by omega), show (2 * (rm : Int)).toNat = 2 * rm by omega]; rfl) (fun i' ρ => ∃ (a : Nat) (od lf : List Int) (v4 : Option U), (lf.length + i' = 2 * rm ∧ od.length = i' ∧ lf.Nodup ∧ ∀ x ∈ lf, x ∉ od) ∧ ρ = [.val (some (.rol (ns.map U.int))), .own (wU xs a), .val (some (.int (0 + (i : Int) * 1))), .val (some (.tup (sc.map U.int))), .val v4, .val (some (.lst ((ranks sc).map U.int))), .val v6, .val v7, .own (.lst (shared sc)), .val v9, .own (.lst (st.map U.int)), .val (some (.tup (sca.map encS))), .val v12, .val (some (.int (2 * (rm : Int)))), .val (some (.tup (od.map U.int))), .val (some (.lst (lf.map U.int))), .val v16, .val v17, .val v18, .val v19, .val v20, .val v21])
            ⟨a2 + 1 + 1, [], (List.range (2 * rm)).map fun k : Nat => (k : Int), v4, ⟨by simp, rfl, List.pairwise_map.mpr (List.nodup_range.imp fun h e => h (Int.ofNat.inj e)), by simp⟩, rfl⟩ ?_ ?_
          · rintro i' x ρ hx' ⟨a3, od, lf, v4', ⟨h1, h2, h3, h4⟩, rfl⟩
            obtain ⟨hi', rfl⟩ := rangeU_at hx'
            obtain ⟨rl, hrl, el⟩ := next (i := ((lf.map U.int).length : Int)) (a := a3) (k := 39) dr hx2 (by rw [List.length_map]; omega) (by omega)
            rw [List.length_map] at hrl
            have hs : uix (.lst (lf.map U.int)) (.int rl) = some (.int (lf.getD rl 0)) := uix_L (k := rl) rfl (by simp [show rl < lf.length by omega])
            have hm : lf.getD rl 0 ∈ lf := by
              rw [List.getD_eq_getElem?_getD, List.getElem?_eq_getElem (by omega)]; exact List.getElem_mem _
            rotate_right
            rw [el]
            rotate_right
            rw [hs]
            generalize lf.getD rl 0 = y at hm
            rotate_right
            rw [ubin_addT (by simp; omega)]
            rw [show od.map U.int ++ [.int y] = (od ++ [y]).map U.int by rw [List.map_append]; rfl]
            rotate_right
            rw [u_compM (α := Int) (β := Int) (xs := lf) (enc := U.int) (enc' := U.int) (by
              simp only [ui_val]
              rotate_right
              simp only [uiter]
              rotate_right
              rfl) (by show _ ≤ 16777216; omega) (fun x => if x ∉ od ++ [y] then some x else none) fun x hx => by
                rotate_right
                rw [ucm_niT 0 rfl (by intro z hz; obtain ⟨j, _, rfl⟩ := List.mem_map.mp hz; rfl) (by omega)]
                have hiff : U.int x ∈ (od ++ [y]).map U.int ↔ x ∈ od ++ [y] := ⟨fun h => by obtain ⟨z, h, e⟩ := List.mem_map.mp h; cases e; exact h, fun h => List.mem_map.mpr ⟨x, h, rfl⟩⟩
                by_cases h : x ∈ od ++ [y]
                · rw [decide_eq_true (hiff.mpr h), if_neg (not_not_intro h)]
                  rotate_right
                · rw [decide_eq_false (fun h' => h (hiff.mp h')), if_pos h]
                  rotate_right]
            rw [left_step h3 h4]
            rotate_right
            refine ⟨_, _, _, _, ⟨?_, ?_, h3.erase _, ?_⟩, rfl⟩
            · rw [List.length_erase_of_mem hm]; omega
            · simp; omega
            · intro z hz
              rw [h3.mem_erase_iff] at hz
              simp only [List.mem_append, List.mem_singleton, not_or]
              exact ⟨h4 z hz.2, hz.1⟩
          · rintro ρ ⟨a3, od, lf, v4, ⟨h1, h2, h3, h4⟩, rfl⟩
            rw [rangeU_len] at h2
            rotate_right
            refine bd_for (xs := rangeU 0 (2 * rm) 1) (by
              simp only [ui_rng]
              rotate_right
              rw [rngU1 (by omega), show (2 * (rm : Int)).toNat = 2 * rm by omega]; rfl) (fun i' ρ => ∃ (a : Nat) (met : List (Int × Int)) (v17 : Option U), met.length ≤ 6 * i' ∧ ρ = [.val (some (.rol (ns.map U.int))), .own (wU xs a), .val (some (.int (0 + (i : Int) * 1))), .val (some (.tup (sc.map U.int))), .val v4, .val (some (.lst ((ranks sc).map U.int))), .val v6, .val v7, .own (.lst (shared sc)), .val v9, .own (.lst (st.map U.int)), .val (some (.tup (sca.map encS))), .val v12, .val (some (.int (2 * (rm : Int)))), .val (some (.tup (od.map U.int))), .val (some (.lst (lf.map U.int))), .val (some (.lst (met.map encS))), .val v17, .val v18, .val v19, .val v20, .val v21])
              ⟨a3, [], v17, by simp, rfl⟩ ?_ ?_
            · rintro i' x ρ hx' ⟨a4, met, v17', hm1, rfl⟩
              obtain ⟨hi', rfl⟩ := rangeU_at hx'
              rotate_right
              have hps : ∃ (ps : List (Int × Int)) (a5 : Nat), ps.length ≤ 6 ∧ uE (uF prog cls 39) (.comp (.tup [(.var 17), (.var 18)]) [18] false (.rng [(.bin .add (.var 17) (.int 1)), (.var 13)]) (some (.cmp .eq (.call 7 [(.own 1), (.int 2)]) (.int 0))) [18]) [.val (some (.rol (ns.map U.int))), .own (wU xs a4), .val (some (.int (0 + (i : Int) * 1))), .val (some (.tup (sc.map U.int))), .val v4, .val (some (.lst ((ranks sc).map U.int))), .val v6, .val v7, .own (.lst (shared sc)), .val v9, .own (.lst (st.map U.int)), .val (some (.tup (sca.map encS))), .val v12, .val (some (.int (2 * (rm : Int)))), .val (some (.tup (od.map U.int))), .val (some (.lst (lf.map U.int))), .val (some (.lst (met.map encS))), .val (some (.int (0 + (i' : Int) * 1))), .val v18, .val v19, .val v20, .val v21] = some (.lst (ps.map encS), [.val (some (.rol (ns.map U.int))), .own (wU xs a5), .val (some (.int (0 + (i : Int) * 1))), .val (some (.tup (sc.map U.int))), .val v4, .val (some (.lst ((ranks sc).map U.int))), .val v6, .val v7, .own (.lst (shared sc)), .val v9, .own (.lst (st.map U.int)), .val (some (.tup (sca.map encS))), .val v12, .val (some (.int (2 * (rm : Int)))), .val (some (.tup (od.map U.int))), .val (some (.lst (lf.map U.int))), .val (some (.lst (met.map encS))), .val (some (.int (0 + (i' : Int) * 1))), .val v18, .val v19, .val v20, .val v21]) := by
                obtain ⟨out, ρ', e2, ps, a5, rfl, h1, rfl⟩ := u_compR (C := uF prog cls 39) (el := (.tup [(.var 17), (.var 18)])) (tg := [18]) (own := [18]) (tup := false) (cond := (some (.cmp .eq (.call 7 [(.own 1), (.int 2)]) (.int 0)))) (it := (.rng [(.bin .add (.var 17) (.int 1)), (.var 13)])) (xs := rangeU (0 + (i' : Int) * 1 + 1) (2 * rm - (i' + 1)) 1) (ρ := [.val (some (.rol (ns.map U.int))), .own (wU xs a4), .val (some (.int (0 + (i : Int) * 1))), .val (some (.tup (sc.map U.int))), .val v4, .val (some (.lst ((ranks sc).map U.int))), .val v6, .val v7, .own (.lst (shared sc)), .val v9, .own (.lst (st.map U.int)), .val (some (.tup (sca.map encS))), .val v12, .val (some (.int (2 * (rm : Int)))), .val (some (.tup (od.map U.int))), .val (some (.lst (lf.map U.int))), .val (some (.lst (met.map encS))), .val (some (.int (0 + (i' : Int) * 1))), .val v18, .val v19, .val v20, .val v21]) (by
                  simp only [ui_rng]
                  rotate_right
                  rw [rngU2 (by omega), show (2 * (rm : Int) - (0 + (i' : Int) * 1 + 1)).toNat = 2 * rm - (i' + 1) by omega]; rfl) (by rw [rangeU_len]; show _ ≤ 16777216; omega) (fun n out ρ => ∃ (ps : List (Int × Int)) (a5 : Nat), out = ps.map encS ∧ ps.length ≤ n ∧ ρ = [.val (some (.rol (ns.map U.int))), .own (wU xs a5), .val (some (.int (0 + (i : Int) * 1))), .val (some (.tup (sc.map U.int))), .val v4, .val (some (.lst ((ranks sc).map U.int))), .val v6, .val v7, .own (.lst (shared sc)), .val v9, .own (.lst (st.map U.int)), .val (some (.tup (sca.map encS))), .val v12, .val (some (.int (2 * (rm : Int)))), .val (some (.tup (od.map U.int))), .val (some (.lst (lf.map U.int))), .val (some (.lst (met.map encS))), .val (some (.int (0 + (i' : Int) * 1))), .val v18, .val v19, .val v20, .val v21]) ⟨[], a4, rfl, by simp, rfl⟩ (by
                    rintro n x out ρ hx' ⟨ps, a5, rfl, h1, rfl⟩
                    obtain ⟨hn, rfl⟩ := rangeU_at hx'
                    obtain ⟨r2, hr2, e3⟩ := next (i := 2) (a := a5) (k := 39) dr hx2 (by omega) (by omega)
                    by_cases h : (r2 : Int) = 0
                    · refine ⟨some (.tup [.int (0 + (i' : Int) * 1), .int (0 + (i' : Int) * 1 + 1 + (n : Int) * 1)]), [.val (some (.rol (ns.map U.int))), .own (wU xs (a5 + 1)), .val (some (.int (0 + (i : Int) * 1))), .val (some (.tup (sc.map U.int))), .val v4, .val (some (.lst ((ranks sc).map U.int))), .val v6, .val v7, .own (.lst (shared sc)), .val v9, .own (.lst (st.map U.int)), .val (some (.tup (sca.map encS))), .val v12, .val (some (.int (2 * (rm : Int)))), .val (some (.tup (od.map U.int))), .val (some (.lst (lf.map U.int))), .val (some (.lst (met.map encS))), .val (some (.int (0 + (i' : Int) * 1))), .val v18, .val v19, .val v20, .val v21], ?_, ps ++ [(0 + (i' : Int) * 1, 0 + (i' : Int) * 1 + 1 + (n : Int) * 1)], a5 + 1, by rw [List.map_append]; rfl, by simp; omega, rfl⟩
                      rotate_right
                      rw [e3]
                      rotate_right
                      rw [ucm_eqI, decide_eq_true h]
                      rotate_right
                    · refine ⟨none, [.val (some (.rol (ns.map U.int))), .own (wU xs (a5 + 1)), .val (some (.int (0 + (i : Int) * 1))), .val (some (.tup (sc.map U.int))), .val v4, .val (some (.lst ((ranks sc).map U.int))), .val v6, .val v7, .own (.lst (shared sc)), .val v9, .own (.lst (st.map U.int)), .val (some (.tup (sca.map encS))), .val v12, .val (some (.int (2 * (rm : Int)))), .val (some (.tup (od.map U.int))), .val (some (.lst (lf.map U.int))), .val (some (.lst (met.map encS))), .val (some (.int (0 + (i' : Int) * 1))), .val v18, .val v19, .val v20, .val v21], ?_, ps, a5 + 1, by simp, by omega, rfl⟩
                      rotate_right
                      rw [e3]
                      rotate_right
                      rw [ucm_eqI, decide_eq_false h]
                      rotate_right)
                rw [rangeU_len] at h1
                exact ⟨ps, a5, by omega, e2⟩
              obtain ⟨ps, a5, hpl, e2⟩ := hps
              rw [e2]
              rotate_right
              rw [ubin_addL (by simp; omega)]
              rotate_right
              rw [show met.map encS ++ ps.map encS = (met ++ ps).map encS by rw [List.map_append]]
              exact ⟨_, _, _, by simp; omega, rfl⟩
            · rintro ρ ⟨a4, met, v17, hm1, rfl⟩
              rotate_right
              have hod : od.length ≤ 6 := by omega
              rw [u_compM (α := List (Int × Int)) (β := List (Int × Int)) (xs := pr 8 od) (enc := encR) (enc' := encR) (by
                simp only [ui_val]
                rotate_right
                rw [sp_pairings 8 39 od (by omega) (by omega) hod (by omega)]
                rotate_right
                simp only [uiter]
                rotate_right
                rfl) (by
                  have h1 := pr_len 8 od hod
                  have h2 : 6 ^ od.length ≤ 6 ^ 6 := Nat.pow_le_pow_right (by omega) hod
                  show _ ≤ 16777216; omega) (fun rows => if rows.all (free met) = true then some rows else none) fun rows hr => by
                    rotate_right
                    rw [u_compM (α := Int × Int) (β := Unit) (xs := rows) (enc := encS) (enc' := fun _ => U.int 1) (by
                      simp only [ui_val]
                      rotate_right
                      simp only [encR, uiter]
                      rotate_right
                      rfl) (by have := pr_row hr; show _ ≤ 16777216; omega) (fun p => if mm p.1 p.2 ∈ met then some () else none) fun p hp => by
                        rw [encS_def]
                        rotate_right
                        rw [in_met]
                        by_cases h : mm p.1 p.2 ∈ met
                        · rw [decide_eq_true h, if_pos h]
                          rotate_right
                        · rw [decide_eq_false h, if_neg h]
                          rotate_right]
                    rotate_right
                    rw [ucm_eqL0 (n := 0) (by intro x hx; obtain ⟨j, _, rfl⟩ := List.mem_map.mp hx; rfl) (by omega), all_free]
                    cases rows.all (free met)
                    · rotate_right
                    · rotate_right
                      rfl]
              have hsp := sp_pr (met := met) 8 od
              rw [show (pr 8 od).filterMap (fun rows => if rows.all (free met) = true then some rows else none) = (pr 8 od).filter (fun rows => rows.all (free met)) by rw [← List.filterMap_eq_filter]; rfl]
              have hok : okA 3 (encO (sp 8 met od)) = true := okA_encO (n := 1) fun rows h => by have := sp_row h; omega
              generalize (pr 8 od).filter (fun rows => rows.all (free met)) = fl at hsp ⊢
              rotate_right
              rw [sp_swiss 8 39 od (by omega) (by omega) (by omega)]
              rw [hsp] at hok ⊢
              rotate_right
              rw [ucm_neL0 (n := 2) ok_encR (by omega)]
              cases fl with
              | nil =>
                rw [List.map_nil, List.isEmpty_nil, List.head?_nil, show encO none = U.non from rfl]
                rotate_right
                rw [alike1 0 .non rfl (by omega)]
                rotate_right
                exact ⟨a4, .own _, .own _, _, _, _, _, _, _, _, _, _, _, _, _, _, _, _, _, _, _, Jk.o, Jk.o, rfl⟩
              | cons rows r =>
                rw [List.head?_cons, show encO (some rows) = encR rows from rfl] at hok
                rw [List.map_cons, List.isEmpty_cons, List.head?_cons, show encO (some rows) = encR rows from rfl]
                rotate_right
                rw [alike1 3 _ hok (by omega)]
                rotate_right
                exact ⟨a4, .own _, .own _, _, _, _, _, _, _, _, _, _, _, _, _, _, _, _, _, _, _, Jk.o, Jk.o, rfl⟩
  · rintro ρ ⟨a, s8, s10, v2, v3, v4, v5, v6, v7, v9, v11, v12, v13, v14, v15, v16, v17, v18, v19, v20, v21, j8, j10, rfl⟩
    rotate_right
end K67
end

section
set_option Elab.async false
set_option linter.all false
set_option maxRecDepth 100000
set_option maxHeartbeats 0
namespace K67
open PySem PySem.Spec PyProof.Rows L2
open PL hiding St

theorem binds_all : ∀ d ∈ dis, BindsB d := by
  intro d hd
  simp only [dis, List.mem_cons, List.not_mem_nil, or_false] at hd
  rcases hd with rfl | rfl | rfl | rfl | rfl | rfl | rfl | rfl | rfl | rfl | rfl | rfl | rfl
  · exact fun _ _ _ _ _ _ us hl => match us, hl with | [_, _], _ => rfl
  · exact fun _ _ _ _ _ _ us hl => match us, hl with | [_, _], _ => rfl
  · exact fun _ _ _ _ _ _ us hl => match us, hl with | [_], _ => rfl
  · exact fun _ _ _ _ _ _ us hl => match us, hl with | [_], _ => rfl
  · exact fun _ _ _ _ _ _ us hl => match us, hl with | [_, _], _ => rfl
  · exact fun _ _ _ _ _ _ us hl => match us, hl with | [_, _], _ => rfl
  · exact fun _ _ _ _ _ _ us hl => match us, hl with | [_, _], _ => rfl
  · exact fun _ _ _ _ _ _ us hl => match us, hl with | [_, _], _ => rfl
  · exact fun _ _ _ _ _ _ us hl => match us, hl with | [_, _], _ => rfl
  · exact fun _ _ _ _ _ _ us hl => match us, hl with | [_, _], _ => rfl
  · exact fun _ _ _ _ _ _ us hl => match us, hl with | [_], _ => rfl
  · exact fun _ _ _ _ _ _ us hl => match us, hl with | [_, _], _ => rfl
  · exact fun _ _ _ _ _ _ us hl => match us, hl with | [_], _ => rfl
abbrev R : PySem.W.OpenRow := PySem.W.OpenLaw.row PySem.Challenge.rw_trickward_k67_ranks_and_pairings
abbrev hk : PySem.W.Hook := He.hookD 4 (faOf dis G.free) (dis.map DI.defD)
def ob (s : PySem.W.SharedT) : He.AlD := He.obsDG 4 (faOf dis G.free) (dis.map DI.defD) (HandSHeadRun.getT s)
theorem ob_eq (s : PySem.W.SharedT) : ob s = hk.obs s.abs := He.obsDG_eq (HandSHeadRun.getT_eq s)
theorem run (w : World) : HandSHeadRun.RunEq R (PySem.W.view R.prog [15]) hk ob 2000 ["common", "fraction", "ranks_of", "shared_ranks", "victory_points", "swiss_pairs", "_law_draws", "_law_next", "_law_pick", "_law_alike", "_law_pairings", "_law_points"] w := by
  intro os
  kernel_rfl
end K67
open PySem PySem.W PySem.Calls PyProof.Rows
theorem PySem.Challenge.cw_trickward_k67_ranks_and_pairings_holds : PySem.Challenge.rw_trickward_k67_ranks_and_pairings.Holds := by
  w_on; o_law
  refine HandSHeadRun.head_any (r := OpenLaw.row PySem.Challenge.rw_trickward_k67_ranks_and_pairings) (q := view (OpenLaw.row PySem.Challenge.rw_trickward_k67_ranks_and_pairings).prog [15]) (H := K67.hk) (ob := K67.ob) (M := 2000) (loose := ["common", "fraction", "ranks_of", "shared_ranks", "victory_points", "swiss_pairs", "_law_draws", "_law_next", "_law_pick", "_law_alike", "_law_pairings", "_law_points"]) (d := HandSHeadRun.topDef (OpenLaw.row PySem.Challenge.rw_trickward_k67_ranks_and_pairings).prog 15) (kwd := []) K67.ob_eq
    (by kernel_rfl) (fun s => by kernel_rfl) K67.run (by kernel_rfl) (by kernel_rfl) (by kernel_rfl) (by rfl) (by first | assumption | decide +kernel) (by decide +kernel) ⟨rfl, rfl, rfl, rfl, rfl, by decide +kernel⟩ ?hw ?hc
  case hw => w_witness2
  case hc =>
    refine L2.walk_ofE (l := PySem.Challenge.rw_trickward_k67_ranks_and_pairings) (n := 63) (k := 40) (x := "script") (CX := L2.CX0) rfl (by decide) (by kernel_rfl) ⟨rfl, by decide, by decide⟩ ?F (fun _ _ _ _ z => z)
    intro w mg fa h Y Gn hmg0
    obtain ⟨K, KX, c⟩ := Y
    have e0 : (HandSHeadRun.topDef (OpenLaw.row PySem.Challenge.rw_trickward_k67_ranks_and_pairings).prog 15).name = (K67.d_law).name := by kernel_rfl
    obtain ⟨fd, hb, hF⟩ := PL.facts_of (prog := (PySem.Challenge.rw_trickward_k67_ranks_and_pairings).prog) (w := w) (P := K67.prog) (k := 40) (i := 12) (d := K67.d_law) KX Gn (by rw [← e0]; exact hmg0) c (by decide +kernel) (by decide +kernel) K67.ok_all K67.binds_all rfl rfl (PL.law_val K67.vok rfl (fun ns hl => by rw [← PL.uF_eq]; exact K67.law_true hl))
    exact ⟨K, fd, PL.spLaw K K67.prog 40 12, KX, hb, fun H a ns hl hO hS => PL.law_start H a ns hl hO hS, hF⟩
end
