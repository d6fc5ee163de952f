import PyProof.Rows.All
import Wide.All
import OpenK.AllK
import Wide.FinOn
import KE.SortData
import KE.DataMinMax
import KE.DatumMoreOrd
import KE.DataFind
import HandS.ForMost
import HandS.TupAny
import HandS.TupMul
import HandS.Deep
import HandS.IsInst
import KE.DataEq
import KE.DataCmp
import KE.DataAny
import KE.KTupSum
import HandS.Iter
import HandS.Rev
import HandS.Zip
import HandS.Flow
import HandS.Style
import HandS.Words
import HandS.Defaults
import HandS.HeadHook2
import HandS.HeadEnd
import HandS.Head0
import HandS.Head1
import HandS.Head2
import PySem.Challenge.RW_trickward_k57_messages_by_orders
set_option maxRecDepth 100000
section
set_option autoImplicit false
set_option linter.all false
namespace PL
open PySem PySem.W PySem.SeqAt

/-! ## values, stores -/
inductive D where
  | non | bl (b : Bool) | int (i : Int) | str (x : Str) | tup (xs : List D) | loc (a : Nat)
  deriving Inhabited
inductive O where
  | lst (xs : List D) | rol (xs : List D) | dic (kvs : List (D × D)) | set (xs : List D) | ins (c : Nat) (fs : List (Str × D))
abbrev S := Nat → Option O
def S.up (s : S) (a : Nat) (o : O) : S := fun b => if b = a then some o else s b
def S.le (s t : S) : Prop := ∀ a o, s a = some o → t a = some o
abbrev Post := D → S → Prop
abbrev Vs := List (Option D)
abbrev lim : Nat := 16777216

theorem S.le_refl (s : S) : s.le s := fun _ _ h => h
theorem S.le_trans {s t u : S} (h : s.le t) (h' : t.le u) : s.le u := fun a o e => h' a o (h a o e)
theorem S.up_same {s : S} {a : Nat} {o : O} : s.up a o a = some o := by simp [S.up]
theorem S.up_ne {s : S} {a b : Nat} {o : O} (h : b ≠ a) : s.up a o b = s b := by simp [S.up, h]
theorem S.up_up {s : S} {a : Nat} {o o' : O} : (s.up a o).up a o' = s.up a o' := by
  funext b; unfold S.up; split <;> rfl
theorem S.up_comm {s : S} {a b : Nat} {o o' : O} (h : a ≠ b) : (s.up a o).up b o' = (s.up b o').up a o := by
  funext c; unfold S.up
  by_cases h1 : c = a <;> by_cases h2 : c = b <;> simp [h1, h2]
  · exact absurd (h1.symm.trans h2) h
  · intro e; exact absurd e h
  · intro e; exact absurd e.symm h
theorem S.le_up {s : S} {a : Nat} {o : O} (h : s a = none) : s.le (s.up a o) := fun b u e => by
  rw [S.up_ne]; exact e
  rintro rfl; rw [h] at e; cases e
theorem S.up_le {s t : S} {a : Nat} {o : O} (h : s.le t) : (s.up a o).le (t.up a o) := fun b u e => by
  unfold S.up at e ⊢; split at e <;> simp_all [S.le]
theorem S.up_self {s : S} {a : Nat} {o : O} (h : s a = some o) : s.up a o = s := by
  funext b; unfold S.up; split
  · next e => rw [e, h]
  · rfl
theorem S.ne_of {s : S} {a p : Nat} {o : O} (h : s a = some o) (hp : s p = none) : a ≠ p := by
  rintro rfl; rw [h] at hp; cases hp

/-- the list that may be read at a -/
def seqAt (s : S) (a : Nat) : Option (List D) := match s a with
  | some (.lst xs) => some xs | some (.rol xs) => some xs | _ => none

/-- data for == : lists resolved -/
def dat (s : S) : Nat → D → Option PyData
  | _, .non => some .none
  | _, .bl b => some (.bool b)
  | _, .int i => some (.int i)
  | _, .str x => some (.str x)
  | n + 1, .tup xs => (xs.mapM (dat s n)).map .tuple
  | n + 1, .loc a => match seqAt s a with
    | some xs => (xs.mapM (dat s n)).map .list
    | none => none
  | 0, .tup _ => none
  | 0, .loc _ => none

def b2i (b : Bool) : Int := if b then 1 else 0

mutual
def D.beq : D → D → Bool
  | .non, .non => true
  | .bl a, .bl b => a == b
  | .int i, .int j => i == j
  | .str x, .str y => x == y
  | .tup xs, .tup ys => D.beqs xs ys
  | .loc a, .loc b => a == b
  | _, _ => false
def D.beqs : List D → List D → Bool
  | [], [] => true
  | x :: xs, y :: ys => D.beq x y && D.beqs xs ys
  | _, _ => false
end
/-- the datum that a value is (for sorting) -/
def datD (s : S) (d : D) : PyData := (dat s 50 d).getD .none
def sortS (s : S) (rev : Bool) (xs : List D) : List D := xs.mergeSort (dataLe rev (datD s))
def Sorts (s : S) (xs : List D) (ds : List PyData) : Prop := xs.mapM (dat s 50) = some ds ∧ AllAlike ds ∧ Sortable ds

def tru (s : S) : D → Option Bool
  | .non => some false
  | .bl b => some b
  | .int i => some (i != 0)
  | .str x => if x.length ≤ lim then some (x.length != 0) else none
  | .tup xs => some (!xs.isEmpty)
  | .loc a => match s a with
    | some (.lst xs) => some (!xs.isEmpty)
    | some (.rol xs) => some (!xs.isEmpty)
    | some (.dic kvs) => some (!kvs.isEmpty)
    | _ => none

/-! ## syntax -/
inductive Op where
  | add | sub | mul | fdiv | mod | pow | shl | shr | band
  deriving DecidableEq
inductive Cm where
  | eq | ne | lt | le | gt | ge | isin | notin
  deriving DecidableEq
inductive Cl where
  | tuple | bool | int | str | list | dict
  deriving DecidableEq
inductive Bi where
  | len | abs | int | list | tuple | sorted | sum | all | any | max | min | set | dict | isi (c : Cl)
  | str | listR (n : Nat) | tupleR (n : Nat) | sortedR (n : Nat) | sortedRev | mkset | mkdict | sumT
  deriving DecidableEq
inductive Mt where
  | append | extend | popAt | pop | index | remove | count | get1 | get2
  deriving DecidableEq
inductive E where
  | var (i : Nat) | int (i : Int) | str (x : Str) | bl (b : Bool) | non
  | tup (es : List E) | lst (es : List E) | dic (ks : List Str) (vs : List E)
  | bin (op : Op) (a b : E) | neg (a : E) | not (a : E) | and (es : List E) | or (es : List E)
  | ife (c a b : E) | cmp (op : Cm) (a b : E) | chain (o1 o2 : Cm) (a b c : E) | isN (neg : Bool) (a : E)
  | call (f : Nat) (es : List E) | bi (b : Bi) (es : List E) | mt (m : Mt) (o : E) (es : List E)
  | ix (a b : E) | sl (a : E) (lo hi : Option E)
  | val (e : E) | rng (es : List E) | zip (a b : E) | rev (a : E) | itm (a : E) | vls (a : E)
  | comp (el : E) (tg : List Nat) (tup : Bool) (it : E) (cond : Option E) (own : List Nat)
  | comp2 (el : E) (tg : List Nat) (tup : Bool) (it : E) (tg1 : List Nat) (tup1 : Bool) (it1 : E) (cond : Option E) (own own1 : List Nat)
inductive Tg where
  | name (i : Nat) | tup (ts : List Tg) | sub (o i : E)
inductive St where
  | asg (tg : Tg) (e : E) | aug (i : Nat) (op : Op) (e : E) | augS (o i : E) (op : Op) (e : E)
  | ife (c : E) (a b : List St) | for (tg : Tg) (it : E) (body : List St) | while (c : E) (body : List St)
  | ret (e : E) | retN | expr (e : E) | pass | brk | cont

/-! ## what the primitives do -/
/-- a new object -/
def newO (o : O) (s : S) (Q : Post) : Prop := ∀ p, s p = none → Q (.loc p) (s.up p o)

def wpBin : Op → D → D → S → Post → Prop
  | .add, .int i, .int j, s, Q => Q (.int (i + j)) s
  | .add, .str x, .str y, s, Q => x.length + y.length ≤ lim ∧ Q (.str (x ++ y)) s
  | .add, .tup xs, .tup ys, s, Q => xs.length + ys.length ≤ lim ∧ Q (.tup (xs ++ ys)) s
  | .add, .loc a, .loc b, s, Q => ∃ xs ys, s a = some (.lst xs) ∧ s b = some (.lst ys) ∧ xs.length + ys.length ≤ lim ∧ newO (.lst (xs ++ ys)) s Q
  | .sub, .int i, .int j, s, Q => Q (.int (i - j)) s
  | .mul, .int i, .int j, s, Q => ((-(2 ^ 64) < i ∧ i < 2 ^ 64) ∨ (-(2 ^ 64) < j ∧ j < 2 ^ 64)) ∧ Q (.int (i * j)) s
  | .mul, .loc a, .int k, s, Q => ∃ xs, s a = some (.lst xs) ∧ -(2 ^ 63) ≤ k ∧ k < 2 ^ 63 ∧ xs.length * k.toNat ≤ lim ∧ newO (.lst (List.replicate k.toNat xs).flatten) s Q
  | .mul, .tup xs, .int k, s, Q => xs ≠ [] ∧ 2 ≤ k ∧ k ≤ 1000 ∧ xs.length ≤ 1000 ∧ Q (.tup (List.replicate k.toNat xs).flatten) s
  | .fdiv, .int i, .int j, s, Q => (0 < j ∧ j < 1073741824) ∧ Q (.int (i / j)) s
  | .mod, .int i, .int j, s, Q => 0 < j ∧ Q (.int (i % j)) s
  | .pow, .int i, .int j, s, Q => (0 ≤ j ∧ j ≤ 1000000 ∧ i.natAbs < 2 ^ 64) ∧ Q (.int (i ^ j.toNat)) s
  | .shl, .int i, .int j, s, Q => (0 ≤ j ∧ j ≤ 1000000 ∧ i.natAbs < 2 ^ 64) ∧ Q (.int (i * 2 ^ j.toNat)) s
  | .shr, .int i, .int j, s, Q => 0 ≤ j ∧ Q (.int (i / 2 ^ j.toNat)) s
  | .band, .int i, .int j, s, Q => 0 ≤ i ∧ j = 1 ∧ Q (.int (i % 2)) s
  | _, _, _, _, _ => False

/-- whole numbers and texts as keys -/
def keyD : D → Bool
  | .int _ => true
  | .str _ => true
  | _ => false
def keyOk (kvs : List (D × D)) (k : D) : Bool := keyD k
/-- dict: put -/
def dput (kvs : List (D × D)) (k v : D) : List (D × D) :=
  if kvs.any (fun kv => D.beq kv.1 k) then kvs.map fun kv => if D.beq kv.1 k then (kv.1, v) else kv else kvs ++ [(k, v)]
def dget (kvs : List (D × D)) (k : D) : Option D := (kvs.find? fun kv => D.beq kv.1 k).map (·.2)

def wpCm : Cm → D → D → S → Post → Prop
  | .eq, x, y, s, Q => ∃ a b, dat s 60 x = some a ∧ dat s 60 y = some b ∧ Q (.bl (PyData.eqv a b)) s
  | .ne, x, y, s, Q => ∃ a b, dat s 60 x = some a ∧ dat s 60 y = some b ∧ Q (.bl (!PyData.eqv a b)) s
  | .lt, .int i, .int j, s, Q => Q (.bl (decide (i < j))) s
  | .lt, .str x, .str y, s, Q => Q (.bl (dataLt (.str x) (.str y))) s
  | .lt, .tup xs, .tup ys, s, Q => ∃ a b, dat s 50 (.tup xs) = some a ∧ dat s 50 (.tup ys) = some b ∧ alike a b = true ∧ Q (.bl (dataLt a b)) s
  | .gt, .tup xs, .tup ys, s, Q => ∃ a b, dat s 50 (.tup xs) = some a ∧ dat s 50 (.tup ys) = some b ∧ alike a b = true ∧ Q (.bl (dataLt b a)) s
  | .le, .tup xs, .tup ys, s, Q => ∃ a b, dat s 50 (.tup xs) = some a ∧ dat s 50 (.tup ys) = some b ∧ alike a b = true ∧ Q (.bl (!dataLt b a)) s
  | .le, .int i, .int j, s, Q => Q (.bl (decide (i ≤ j))) s
  | .gt, .int i, .int j, s, Q => Q (.bl (decide (j < i))) s
  | .ge, .int i, .int j, s, Q => Q (.bl (decide (j ≤ i))) s
  | .isin, x, .tup ys, s, Q => ∃ a bs, dat s 60 x = some a ∧ ys.mapM (dat s 59) = some bs ∧ Q (.bl (bs.any fun z => PyData.eqv z a)) s
  | .notin, x, .tup ys, s, Q => ∃ a bs, dat s 60 x = some a ∧ ys.mapM (dat s 59) = some bs ∧ Q (.bl (!bs.any fun z => PyData.eqv z a)) s
  | .isin, x, .loc l, s, Q => (∃ ys a bs, seqAt s l = some ys ∧ dat s 60 x = some a ∧ ys.mapM (dat s 59) = some bs ∧ Q (.bl (bs.any fun z => PyData.eqv z a)) s) ∨
      (∃ kvs, s l = some (.dic kvs) ∧ keyOk kvs x = true ∧ Q (.bl (dget kvs x).isSome) s)
  | .notin, x, .loc l, s, Q => (∃ ys a bs, seqAt s l = some ys ∧ dat s 60 x = some a ∧ ys.mapM (dat s 59) = some bs ∧ Q (.bl (!bs.any fun z => PyData.eqv z a)) s) ∨
      (∃ kvs, s l = some (.dic kvs) ∧ keyOk kvs x = true ∧ Q (.bl (!(dget kvs x).isSome)) s)
  | _, _, _, _, _ => False

/-- the items of a tuple or a list -/
def itemsOf (s : S) : D → Option (List D)
  | .tup xs => some xs
  | .loc a => seqAt s a
  | _ => none
def isCl (s : S) : Cl → D → Option Bool
  | c, .non => some false
  | c, .bl _ => some (c == .bool || c == .int)
  | c, .int _ => some (c == .int)
  | c, .str _ => some (c == .str)
  | c, .tup _ => some (c == .tuple)
  | c, .loc a => match s a with
    | some (.lst _) => some (c == .list)
    | some (.dic _) => some (c == .dict)
    | _ => none
def unInt : D → Option Int
  | .int i => some i
  | _ => none
def unBl : D → Option Bool
  | .bl b => some b
  | _ => none
/-- range's ints -/
def rangeL (lo : Int) (n : Nat) (st : Int) : List D := (List.range n).map fun (k : Nat) => D.int (lo + (k : Int) * st)
@[irreducible] def rngOf : List D → Option (Int × Nat × Int)
  | [.int b] => if -(2 ^ 62) ≤ b ∧ b < 2 ^ 62 then some (0, b.toNat, 1) else none
  | [.int a, .int b] => if -(2 ^ 62) ≤ a ∧ a < 2 ^ 62 ∧ -(2 ^ 62) ≤ b ∧ b < 2 ^ 62 then some (a, (b - a).toNat, 1) else none
  | [.int a, .int b, .int c] => if -(2 ^ 61) ≤ a ∧ a < 2 ^ 61 ∧ -(2 ^ 61) ≤ b ∧ b < 2 ^ 61 ∧ c ≠ 0 ∧ c.natAbs < 2 ^ 30 then
      some (a, (if 0 < c then (b - a + c - 1) / c else (a - b - c - 1) / (-c)).toNat, c) else none
  | _ => none
/-- what a list of pairs makes of a dict -/
def dputs : List (D × D) → List D → Option (List (D × D))
  | kvs, [] => some kvs
  | kvs, .tup [k, v] :: r => dputs (dput kvs k v) r
  | _, _ => none
def sputs : List D → List D → List D
  | ys, [] => ys
  | ys, x :: r => sputs (if ys.any (fun y => D.beq y x) then ys else ys ++ [x]) r

def wpLen : List D → S → Post → Prop
  | [.str x], s, Q => x.length ≤ lim ∧ Q (.int x.length) s
  | [.tup xs], s, Q => Q (.int xs.length) s
  | [.loc a], s, Q => match s a with
    | some (.lst xs) => Q (.int xs.length) s
    | some (.rol xs) => Q (.int xs.length) s
    | some (.dic kvs) => Q (.int kvs.length) s
    | _ => False
  | _, _, _ => False
def wpAbs : List D → S → Post → Prop
  | [.int i], s, Q => Q (.int (if i < 0 then -i else i)) s
  | _, _, _ => False
def wpInt : List D → S → Post → Prop
  | [.int i], s, Q => Q (.int i) s
  | [.bl b], s, Q => Q (.int (b2i b)) s
  | _, _, _ => False
def wpList : List D → S → Post → Prop
  | [x], s, Q => ∃ xs, itemsOf s x = some xs ∧ newO (.lst xs) s Q
  | _, _, _ => False
def wpTuple : List D → S → Post → Prop
  | [x], s, Q => ∃ xs, itemsOf s x = some xs ∧ Q (.tup xs) s
  | _, _, _ => False
def wpSorted (rev : Bool) : List D → S → Post → Prop
  | [x], s, Q => ∃ xs ds, itemsOf s x = some xs ∧ Sorts s xs ds ∧ newO (.lst (sortS s rev xs)) s Q
  | _, _, _ => False
def wpSum : List D → S → Post → Prop
  | [x], s, Q => ∃ (xs : List D) (ns : List Int), itemsOf s x = some xs ∧ xs = ns.map D.int ∧ Q (.int ns.sum) s
  | _, _, _ => False
def wpAllB : List D → S → Post → Prop
  | [x], s, Q => ∃ (xs : List D) (bs : List Bool), itemsOf s x = some xs ∧ xs = bs.map D.bl ∧ Q (.bl (bs.all id)) s
  | _, _, _ => False
def wpAnyB : List D → S → Post → Prop
  | [x], s, Q => ∃ (xs : List D) (bs : List Bool), itemsOf s x = some xs ∧ xs = bs.map D.bl ∧ Q (.bl (bs.any id)) s
  | _, _, _ => False
def wpMax : List D → S → Post → Prop
  | [.int i, .int j], s, Q => Q (.int (if j > i then j else i)) s
  | [x], s, Q => ∃ (xs : List D) (a : PyData) (as : List PyData), itemsOf s x = some xs ∧ xs.mapM (dat s 50) = some (a :: as) ∧ AlikeAll (a :: as) ∧ ∀ d, d ∈ xs → dat s 50 d = some (maxD a as) → Q d s
  | _, _, _ => False
def wpMin : List D → S → Post → Prop
  | [.int i, .int j], s, Q => Q (.int (if j < i then j else i)) s
  | [x], s, Q => ∃ (xs : List D) (a : PyData) (as : List PyData), itemsOf s x = some xs ∧ xs.mapM (dat s 50) = some (a :: as) ∧ AlikeAll (a :: as) ∧ ∀ d, d ∈ xs → dat s 50 d = some (minD a as) → Q d s
  | _, _, _ => False
def wpIsi (c : Cl) : List D → S → Post → Prop
  | [x], s, Q => ∃ b, isCl s c x = some b ∧ Q (.bl b) s
  | _, _, _ => False
def wpStr : List D → S → Post → Prop
  | [.int i], s, Q => i.natAbs.log2 < 1920 ∧ Q (.str (Str.ofString (toString i))) s
  | _, _, _ => False
def wpListR (xs : List D) (s : S) (Q : Post) : Prop := ∃ r, rngOf xs = some r ∧ r.2.1 ≤ lim ∧ newO (.lst (rangeL r.1 r.2.1 r.2.2)) s Q
def wpTupleR (xs : List D) (s : S) (Q : Post) : Prop := ∃ r, rngOf xs = some r ∧ r.2.1 ≤ lim ∧ Q (.tup (rangeL r.1 r.2.1 r.2.2)) s
def wpDict : List D → S → Post → Prop
  | [x], s, Q => ∃ xs kvs, itemsOf s x = some xs ∧ dputs [] xs = some kvs ∧ newO (.dic kvs) s Q
  | _, _, _ => False
def wpBi : Bi → List D → S → Post → Prop
  | .len => wpLen
  | .abs => wpAbs
  | .int => wpInt
  | .list => wpList
  | .tuple => wpTuple
  | .sorted => wpSorted false
  | .sortedRev => wpSorted true
  | .sum => wpSum
  | .all => wpAllB
  | .any => wpAnyB
  | .max => wpMax
  | .min => wpMin
  | .isi c => wpIsi c
  | .str => wpStr
  | .listR _ => wpListR
  | .tupleR _ => wpTupleR
  | .dict => wpDict
  | _ => fun _ _ _ => False

/-- a place of a list of n -/
def ixOf (n : Nat) (i : Int) : Option Nat := if 0 ≤ i then (if i < n then some i.toNat else none) else if -(n : Int) ≤ i then some (i + n).toNat else none
def atD (xs : List D) (i : Int) : Option D := (ixOf xs.length i).bind fun j => xs[j]?
def wpIx : D → D → S → Post → Prop
  | .tup xs, .int i, s, Q => ∃ d, atD xs i = some d ∧ Q d s
  | .str x, .int i, s, Q => x.length ≤ lim ∧ ∃ j c, ixOf x.cps.toList.length i = some j ∧ x.cps.toList[j]? = some c ∧ Q (.str ⟨#[c]⟩) s
  | .loc a, k, s, Q => (∃ xs i d, k = .int i ∧ seqAt s a = some xs ∧ atD xs i = some d ∧ Q d s) ∨ (∃ kvs d, s a = some (.dic kvs) ∧ keyOk kvs k = true ∧ dget kvs k = some d ∧ Q d s)
  | _, _, _, _ => False
def cutIx (n d : Nat) : Option Int → Nat
  | none => d
  | some v => if v < 0 then (v + (n : Int)).toNat else min v.toNat n
def cutD {α : Type} (xs : List α) (lo hi : Option Int) : List α := (xs.drop (cutIx xs.length 0 lo)).take (cutIx xs.length xs.length hi - cutIx xs.length 0 lo)
def wpSl : D → Option Int → Option Int → S → Post → Prop
  | .tup xs, lo, hi, s, Q => Q (.tup (cutD xs lo hi)) s
  | .str x, lo, hi, s, Q => x.length ≤ lim ∧ Q (.str ⟨(cutD x.cps.toList lo hi).toArray⟩) s
  | .loc a, lo, hi, s, Q => ∃ xs, seqAt s a = some xs ∧ newO (.lst (cutD xs lo hi)) s Q
  | _, _, _, _, _ => False
def wpAppend : D → List D → S → Post → Prop
  | .loc a, [x], s, Q => ∃ xs, s a = some (.lst xs) ∧ xs.length < lim ∧ Q .non (s.up a (.lst (xs ++ [x])))
  | _, _, _, _ => False
def wpExtend : D → List D → S → Post → Prop
  | .loc a, [.loc b], s, Q => ∃ xs ys, s a = some (.lst xs) ∧ s b = some (.lst ys) ∧ xs.length + ys.length ≤ lim ∧ Q .non (s.up a (.lst (xs ++ ys)))
  | _, _, _, _ => False
def wpPopAt : D → List D → S → Post → Prop
  | .loc a, [.int i], s, Q => ∃ xs j d, s a = some (.lst xs) ∧ (-(2 ^ 63) ≤ i ∧ i < 2 ^ 63) ∧ ixOf xs.length i = some j ∧ xs[j]? = some d ∧ Q d (s.up a (.lst (xs.eraseIdx j)))
  | _, _, _, _ => False
def wpPopL : D → List D → S → Post → Prop
  | .loc a, [], s, Q => ∃ xs d, s a = some (.lst xs) ∧ xs[xs.length - 1]? = some d ∧ Q d (s.up a (.lst xs.dropLast))
  | _, _, _, _ => False
def wpIndex : D → List D → S → Post → Prop
  | .loc a, [x], s, Q => ∃ xs ds y j, seqAt s a = some xs ∧ xs.mapM (dat s 59) = some ds ∧ dat s 60 x = some y ∧ dataPlace ds y = some j ∧ Q (.int j) s
  | _, _, _, _ => False
def wpRemove : D → List D → S → Post → Prop
  | .loc a, [x], s, Q => ∃ xs ds y j, s a = some (.lst xs) ∧ xs.mapM (dat s 59) = some ds ∧ dat s 60 x = some y ∧ dataPlace ds y = some j ∧ Q .non (s.up a (.lst (xs.eraseIdx j)))
  | _, _, _, _ => False
def wpCount : D → List D → S → Post → Prop
  | .loc a, [y], s, Q => ∃ xs ds b, seqAt s a = some xs ∧ xs.mapM (dat s 59) = some ds ∧ dat s 60 y = some b ∧ Q (.int (ds.countP fun z => PyData.eqv z b : Nat)) s
  | _, _, _, _ => False
def wpGet1 : D → List D → S → Post → Prop
  | .loc a, [k], s, Q => ∃ kvs, s a = some (.dic kvs) ∧ keyOk kvs k = true ∧ Q ((dget kvs k).getD .non) s
  | _, _, _, _ => False
def wpGet2 : D → List D → S → Post → Prop
  | .loc a, [k, d], s, Q => ∃ kvs, s a = some (.dic kvs) ∧ keyOk kvs k = true ∧ Q ((dget kvs k).getD d) s
  | _, _, _, _ => False
def wpMt : Mt → D → List D → S → Post → Prop
  | .append => wpAppend
  | .extend => wpExtend
  | .popAt => wpPopAt
  | .pop => wpPopL
  | .index => wpIndex
  | .remove => wpRemove
  | .count => wpCount
  | .get1 => wpGet1
  | .get2 => wpGet2
/-- what a method is asked of -/
def recvB : Mt → D → S → Bool
  | .get1, .loc a, s => match s a with | some (.dic _) => true | _ => false
  | .get2, .loc a, s => match s a with | some (.dic _) => true | _ => false
  | _, .loc a, s => (seqAt s a).isSome
  | _, _, _ => false
def wpSet : D → D → D → S → (S → Prop) → Prop
  | .loc a, k, v, s, Q => (∃ xs i j, s a = some (.lst xs) ∧ k = .int i ∧ ixOf xs.length i = some j ∧ Q (s.up a (.lst (xs.set j v)))) ∨
      (∃ kvs, s a = some (.dic kvs) ∧ keyOk kvs k = true ∧ kvs.length < lim ∧ Q (s.up a (.dic (dput kvs k v))))
  | _, _, _, _, _ => False

/-! ## what is walked -/
/-- the items, and what must stay true while they are walked -/
abbrev ItP := (S → Prop) → List D → S → Prop
def wpIter : D → S → ItP → Prop
  | .tup xs, s, R => R (fun _ => True) xs s
  | .loc a, s, R => ∃ xs, seqAt s a = some xs ∧ R (fun s' => seqAt s' a = some xs) xs s
  | .str x, s, R => R (fun _ => True) (x.cps.toList.map fun c => .str ⟨#[c]⟩) s
  | _, _, _ => False

/-- a loop over items -/
def forL (chk : S → Prop) (turn : D → Vs → S → (Vs → S → Prop) → Prop) (nx : Vs → S → Prop) : List D → Vs → S → Prop
  | [], ρ, s => chk s ∧ nx ρ s
  | x :: xs, ρ, s => chk s ∧ turn x ρ s fun ρ' s' => ∃ s0 : S, s0.le s' ∧ forL chk turn nx xs ρ' s0
def whileL (test : Vs → S → (Bool → S → Prop) → Prop) (body : Vs → S → (Vs → S → Prop) → Prop) (nx : Vs → S → Prop) : Nat → Vs → S → Prop
  | 0, _, _ => False
  | n + 1, ρ, s => test ρ s fun b s1 => if b = true then body ρ s1 fun ρ' s' => ∃ s0 : S, s0.le s' ∧ whileL test body nx n ρ' s0 else nx ρ s1
/-- a comprehension's loop: p the new list -/
def compL (chk : S → Prop) (p : Nat) (turn : D → S → (Option D → S → Prop) → Prop) (Q : S → Prop) : List D → List D → S → Prop
  | [], acc, s => chk s ∧ s p = some (.lst acc) ∧ Q s
  | x :: xs, acc, s => chk s ∧ turn x s fun y s' => match y with
    | some y => s' p = some (.lst acc) ∧ acc.length < lim ∧ ∃ s0 : S, s0.le (s'.up p (.lst (acc ++ [y]))) ∧ compL chk p turn Q xs (acc ++ [y]) s0
    | none => s' p = some (.lst acc) ∧ ∃ s0 : S, s0.le s' ∧ compL chk p turn Q xs acc s0

abbrev Cs := Nat → List D → S → Post → Prop
/-- a comprehension's target: one name, or a tuple of names -/
def bindC (tg : List Nat) (tup : Bool) (x : D) (ρ : Vs) : Option Vs :=
  if tup then (match x with
    | .tup ys => if ys.length = tg.length then some ((tg.zip ys).foldl (fun r p => r.set p.1 (some p.2)) ρ) else none
    | _ => none)
  else match tg with
    | [i] => some (ρ.set i (some x))
    | _ => none
def wipeV (ρ : Vs) : List Nat → Vs
  | [] => ρ
  | v :: vs => (wipeV ρ vs).set v none

mutual
def wpE (C : Cs) : E → Vs → S → Post → Prop
  | .var i, ρ, s, Q => match ρ.getD i none with | some d => Q d s | none => False
  | .int i, _, s, Q => Q (.int i) s
  | .str x, _, s, Q => Q (.str x) s
  | .bl b, _, s, Q => Q (.bl b) s
  | .non, _, s, Q => Q .non s
  | .tup es, ρ, s, Q => wpEs C es ρ s fun xs s1 => Q (.tup xs) s1
  | .lst es, ρ, s, Q => wpEs C es ρ s fun xs s1 => newO (.lst xs) s1 Q
  | .dic ks vs, ρ, s, Q => ∀ p, s p = none → wpEs C vs ρ (s.up p (.dic [])) fun vd s2 => s2 p = some (.dic []) ∧ Q (.loc p) (s2.up p (.dic ((ks.map D.str).zip vd)))
  | .bin op a b, ρ, s, Q => wpE C a ρ s fun x s1 => wpE C b ρ s1 fun y s2 => wpBin op x y s2 Q
  | .neg a, ρ, s, Q => wpE C a ρ s fun x s1 => match x with | .int i => Q (.int (-i)) s1 | _ => False
  | .not a, ρ, s, Q => wpE C a ρ s fun x s1 => match tru s1 x with | some b => Q (.bl (!b)) s1 | none => False
  | .and es, ρ, s, Q => wpAnd C es ρ s Q
  | .or es, ρ, s, Q => wpOr C es ρ s Q
  | .ife c a b, ρ, s, Q => wpT C c ρ s fun t s1 => if t = true then wpE C a ρ s1 Q else wpE C b ρ s1 Q
  | .cmp op a b, ρ, s, Q => wpE C a ρ s fun x s1 => wpE C b ρ s1 fun y s2 => wpCm op x y s2 Q
  | .chain o1 o2 a b c, ρ, s, Q => wpE C a ρ s fun x s1 => wpE C b ρ s1 fun y s2 => wpCm o1 x y s2 fun t s3 => match t with
    | .bl true => wpE C c ρ s3 fun z s4 => wpCm o2 y z s4 Q
    | .bl false => Q (.bl false) s3
    | _ => False
  | .isN n a, ρ, s, Q => wpE C a ρ s fun x s1 => Q (.bl (match x with | .non => !n | _ => n)) s1
  | .call f es, ρ, s, Q => wpEs C es ρ s fun xs s1 => C f xs s1 Q
  | .bi b es, ρ, s, Q => wpEs C es ρ s fun xs s1 => wpBi b xs s1 Q
  | .mt m o es, ρ, s, Q => wpE C o ρ s fun x s1 => recvB m x s1 = true ∧ wpEs C es ρ s1 fun xs s2 => wpMt m x xs s2 Q
  | .ix a b, ρ, s, Q => wpE C a ρ s fun x s1 => wpE C b ρ s1 fun y s2 => wpIx x y s2 Q
  | .sl a lo hi, ρ, s, Q => wpE C a ρ s fun x s1 => wpO C lo ρ s1 fun l s2 => wpO C hi ρ s2 fun h s3 => wpSl x l h s3 Q
  | .val _, _, _, _ => False
  | .rng _, _, _, _ => False
  | .zip _ _, _, _, _ => False
  | .rev _, _, _, _ => False
  | .itm _, _, _, _ => False
  | .vls _, _, _, _ => False
  | .comp el tg tup it cond own, ρ, s, Q => wpI C it ρ s fun chk xs s1 => ∀ p, s1 p = none → compL chk p
      (fun x s2 k => match bindC tg tup x (wipeV ρ own) with
        | none => False
        | some ρ' => wpC C cond ρ' s2 fun b s3 => if b = true then wpE C el ρ' s3 fun y s4 => k (some y) s4 else k none s3)
      (fun s' => Q (.loc p) s') xs [] (s1.up p (.lst []))
  | .comp2 .., _, _, _ => False
def wpEs (C : Cs) : List E → Vs → S → (List D → S → Prop) → Prop
  | [], _, s, Q => Q [] s
  | e :: es, ρ, s, Q => wpE C e ρ s fun x s1 => wpEs C es ρ s1 fun xs s2 => Q (x :: xs) s2
def wpO (C : Cs) : Option E → Vs → S → (Option Int → S → Prop) → Prop
  | none, _, s, Q => Q none s
  | some e, ρ, s, Q => wpE C e ρ s fun x s1 => match x with | .int i => Q (some i) s1 | _ => False
def wpC (C : Cs) : Option E → Vs → S → (Bool → S → Prop) → Prop
  | none, _, s, Q => Q true s
  | some e, ρ, s, Q => wpT C e ρ s Q
def wpAnd (C : Cs) : List E → Vs → S → Post → Prop
  | [], _, _, _ => False
  | [e], ρ, s, Q => wpE C e ρ s Q
  | e :: es, ρ, s, Q => wpE C e ρ s fun x s1 => match x with | .bl true => wpAnd C es ρ s1 Q | .bl false => Q (.bl false) s1 | _ => False
def wpOr (C : Cs) : List E → Vs → S → Post → Prop
  | [], _, _, _ => False
  | [e], ρ, s, Q => wpE C e ρ s Q
  | e :: es, ρ, s, Q => wpE C e ρ s fun x s1 => match x with | .bl true => Q (.bl true) s1 | .bl false => wpOr C es ρ s1 Q | _ => False
def wpT (C : Cs) : E → Vs → S → (Bool → S → Prop) → Prop
  | .not a, ρ, s, Q => wpT C a ρ s fun b s1 => Q (!b) s1
  | .and es, ρ, s, Q => wpAndT C es ρ s Q
  | .or es, ρ, s, Q => wpOrT C es ρ s Q
  | .ife c a b, ρ, s, Q => wpT C c ρ s fun t s1 => if t = true then wpT C a ρ s1 Q else wpT C b ρ s1 Q
  | .isN n a, ρ, s, Q => wpE C a ρ s fun x s1 => Q (match x with | .non => !n | _ => n) s1
  | .chain o1 o2 a b c, ρ, s, Q => wpE C a ρ s fun x s1 => wpE C b ρ s1 fun y s2 => wpCm o1 x y s2 fun t s3 => match t with
    | .bl true => wpE C c ρ s3 fun z s4 => wpCm o2 y z s4 fun t s5 => match t with | .bl b => Q b s5 | _ => False
    | .bl false => Q false s3
    | _ => False
  | .cmp op a b, ρ, s, Q => wpE C a ρ s fun x s1 => wpE C b ρ s1 fun y s2 => wpCm op x y s2 fun t s3 => match t with | .bl b => Q b s3 | _ => False
  | .val e, ρ, s, Q => wpE C e ρ s fun x s1 => match tru s1 x with | some b => Q b s1 | none => False
  | _, _, _, _ => False
def wpAndT (C : Cs) : List E → Vs → S → (Bool → S → Prop) → Prop
  | [], _, _, _ => False
  | [e], ρ, s, Q => wpT C e ρ s Q
  | e :: es, ρ, s, Q => wpT C e ρ s fun b s1 => if b = true then wpAndT C es ρ s1 Q else Q false s1
def wpOrT (C : Cs) : List E → Vs → S → (Bool → S → Prop) → Prop
  | [], _, _, _ => False
  | [e], ρ, s, Q => wpT C e ρ s Q
  | e :: es, ρ, s, Q => wpT C e ρ s fun b s1 => if b = true then Q true s1 else wpOrT C es ρ s1 Q
/-- what is walked -/
def wpI (C : Cs) : E → Vs → S → ItP → Prop
  | .rng es, ρ, s, R => wpEs C es ρ s fun xs s1 => match rngOf xs with
    | some r => R (fun _ => True) (rangeL r.1 r.2.1 r.2.2) s1
    | none => False
  | .zip a b, ρ, s, R => wpE C a ρ s fun x s1 => wpE C b ρ s1 fun y s2 => match itemsOf s2 x, itemsOf s2 y with
    | some xs, some ys => R (fun s' => itemsOf s' x = some xs ∧ itemsOf s' y = some ys) ((xs.zip ys).map fun p => .tup [p.1, p.2]) s2
    | _, _ => False
  | .rev a, ρ, s, R => wpE C a ρ s fun x s1 => match itemsOf s1 x with
    | some xs => R (fun s' => itemsOf s' x = some xs) xs.reverse s1
    | none => False
  | .itm a, ρ, s, R => wpE C a ρ s fun x s1 => match x with
    | .loc l => ∃ kvs, s1 l = some (.dic kvs) ∧ R (fun s' => s' l = some (.dic kvs)) (kvs.map fun kv => .tup [kv.1, kv.2]) s1
    | _ => False
  | .val e, ρ, s, R => wpE C e ρ s fun x s1 => wpIter x s1 R
  | _, _, _, _ => False
end
example (C : Cs) (ρ : Vs) (s : S) (Q : Post) : wpE C (.int 3) ρ s Q = Q (.int 3) s := rfl
end PL
end

section
set_option autoImplicit false
set_option linter.all false
namespace PL
open PySem

mutual
def wpTg (C : Cs) : Tg → D → Vs → S → (Vs → S → Prop) → Prop
  | .name i, d, ρ, s, k => k (ρ.set i (some d)) s
  | .tup ts, d, ρ, s, k => match d with
    | .tup ds => ds.length = ts.length ∧ wpTgs C ts ds ρ s k
    | _ => False
  | .sub o i, d, ρ, s, k => wpE C o ρ s fun x s1 => wpE C i ρ s1 fun y s2 => wpSet x y d s2 fun s3 => k ρ s3
def wpTgs (C : Cs) : List Tg → List D → Vs → S → (Vs → S → Prop) → Prop
  | [], [], ρ, s, k => k ρ s
  | t :: ts, d :: ds, ρ, s, k => wpTg C t d ρ s fun ρ' s' => wpTgs C ts ds ρ' s' k
  | _, _, _, _, _ => False
end

structure Ds where
  nx : Vs → S → Prop
  rt : D → S → Prop
  bk : Vs → S → Prop
  ct : Vs → S → Prop

def wpAug : Op → D → D → S → Post → Prop
  | .add, .int i, .int j, s, Q => Q (.int (i + j)) s
  | .sub, .int i, .int j, s, Q => Q (.int (i - j)) s
  | _, _, _, _, _ => False

/-- a subscript without its place in a text: lists and dicts -/
def wpGet : D → D → S → Post → Prop
  | .loc a, k, s, Q => wpIx (.loc a) k s Q
  | _, _, _, _ => False
mutual
def wpS (C : Cs) : St → Ds → Vs → S → Prop
  | .asg tg e, K, ρ, s => wpE C e ρ s fun d s1 => wpTg C tg d ρ s1 K.nx
  | .aug i op e, K, ρ, s => match ρ.getD i none with
    | some x => wpE C e ρ s fun y s1 => wpAug op x y s1 fun z s2 => K.nx (ρ.set i (some z)) s2
    | none => False
  | .augS o i op e, K, ρ, s => wpE C o ρ s fun x s1 => wpE C i ρ s1 fun y s2 => wpGet x y s2 fun v s3 => wpE C e ρ s3 fun z s4 => wpAug op v z s4 fun u s5 => wpSet x y u s5 fun s6 => K.nx ρ s6
  | .ife c a b, K, ρ, s => wpT C c ρ s fun t s1 => if t = true then wpSs C a K ρ s1 else wpSs C b K ρ s1
  | .for tg it body, K, ρ, s => wpI C it ρ s fun chk xs s1 =>
      forL chk (fun x ρ s k => wpTg C tg x ρ s fun ρ2 s2 => wpSs C body ⟨k, K.rt, K.nx, k⟩ ρ2 s2) K.nx xs ρ s1
  | .while c body, K, ρ, s => ∃ n, whileL (fun ρ s k => wpT C c ρ s k) (fun ρ s k => wpSs C body ⟨k, K.rt, K.nx, k⟩ ρ s) K.nx n ρ s
  | .ret e, K, ρ, s => wpE C e ρ s K.rt
  | .retN, K, _, s => K.rt .non s
  | .expr e, K, ρ, s => wpE C e ρ s fun _ s1 => K.nx ρ s1
  | .pass, K, ρ, s => K.nx ρ s
  | .brk, K, ρ, s => K.bk ρ s
  | .cont, K, ρ, s => K.ct ρ s
def wpSs (C : Cs) : List St → Ds → Vs → S → Prop
  | [], K, ρ, s => K.nx ρ s
  | st :: r, K, ρ, s => wpS C st ⟨fun ρ' s' => wpSs C r K ρ' s', K.rt, K.bk, K.ct⟩ ρ s
end

structure Fn where
  np : Nat
  nl : Nat
  body : List St
abbrev Prog := List Fn
def startV (f : Fn) (args : List D) : Vs := args.map some ++ List.replicate (f.nl - args.length) none
def retD (Q : Post) : Ds := ⟨fun _ s => ∃ s0 : S, s0.le s ∧ Q .non s0, fun d s => ∃ s0 : S, s0.le s ∧ Q d s0, fun _ _ => False, fun _ _ => False⟩
def wpF (P : Prog) : Nat → Cs
  | 0, _, _, _, _ => False
  | k + 1, i, args, s, Q => match P[i]? with
    | some f => args.length = f.np ∧ wpSs (wpF P k) f.body (retD Q) (startV f args) s
    | none => False

/-! ## monotone -/
section
variable {Q Q' : Post}
theorem newO_mono {o : O} {s : S} (hQ : ∀ d s, Q d s → Q' d s) (h : newO o s Q) : newO o s Q' := fun p hp => hQ _ _ (h p hp)
local macro_rules | `(tactic| trivial) => `(tactic| (repeat' first | exact fun h => h | exact (fun h => ‹∀ d s, _ → _› _ _ h) | exact (fun h => ‹∀ s, _ → _› _ h) | exact newO_mono (by assumption) | exact (fun h d h1 h2 => ‹∀ d s, _ → _› _ _ (h d h1 h2)) | refine And.imp ?_ ?_ | refine Exists.imp (fun _ => ?_) | refine Or.imp ?_ ?_))
theorem wpBin_mono {op : Op} {x y : D} {s : S} (hQ : ∀ d s, Q d s → Q' d s) : wpBin op x y s Q → wpBin op x y s Q' := by
  unfold wpBin
  split <;> trivial
theorem wpCm_mono {op : Cm} {x y : D} {s : S} (hQ : ∀ d s, Q d s → Q' d s) : wpCm op x y s Q → wpCm op x y s Q' := by
  unfold wpCm
  split <;> trivial
theorem wpBi_mono {b : Bi} {xs : List D} {s : S} (hQ : ∀ d s, Q d s → Q' d s) : wpBi b xs s Q → wpBi b xs s Q' := by
  cases b <;> simp only [wpBi]
  case len =>
    unfold wpLen
    split
    · trivial
    · trivial
    · split <;> trivial
    · trivial
  case abs =>
    unfold wpAbs
    split <;> trivial
  case int =>
    unfold wpInt
    split <;> trivial
  case list =>
    unfold wpList
    split <;> trivial
  case tuple =>
    unfold wpTuple
    split <;> trivial
  case sorted =>
    unfold wpSorted
    split <;> trivial
  case sum =>
    unfold wpSum
    split <;> trivial
  case all =>
    unfold wpAllB
    split <;> trivial
  case any =>
    unfold wpAnyB
    split <;> trivial
  case max =>
    unfold wpMax
    split <;> trivial
  case min =>
    unfold wpMin
    split <;> trivial
  case dict =>
    unfold wpDict
    split <;> trivial
  case isi =>
    unfold wpIsi
    split <;> trivial
  case str =>
    unfold wpStr
    split <;> trivial
  case listR =>
    unfold wpListR
    trivial
  case tupleR =>
    unfold wpTupleR
    trivial
  case sortedRev =>
    unfold wpSorted
    split <;> trivial
  all_goals exact fun h => h
theorem wpIx_mono {x y : D} {s : S} (hQ : ∀ d s, Q d s → Q' d s) : wpIx x y s Q → wpIx x y s Q' := by
  unfold wpIx
  split <;> trivial
theorem wpGet_mono {x y : D} {s : S} (hQ : ∀ d s, Q d s → Q' d s) : wpGet x y s Q → wpGet x y s Q' := by
  unfold wpGet
  split
  · exact wpIx_mono hQ
  · exact fun h => h
theorem wpSl_mono {x : D} {l u : Option Int} {s : S} (hQ : ∀ d s, Q d s → Q' d s) : wpSl x l u s Q → wpSl x l u s Q' := by
  unfold wpSl
  split <;> trivial
theorem wpMt_mono {m : Mt} {x : D} {xs : List D} {s : S} (hQ : ∀ d s, Q d s → Q' d s) : wpMt m x xs s Q → wpMt m x xs s Q' := by
  cases m <;> simp only [wpMt]
  case append =>
    unfold wpAppend
    split <;> trivial
  case extend =>
    unfold wpExtend
    split <;> trivial
  case popAt =>
    unfold wpPopAt
    split <;> trivial
  case pop =>
    unfold wpPopL
    split <;> trivial
  case index =>
    unfold wpIndex
    split <;> trivial
  case remove =>
    unfold wpRemove
    split <;> trivial
  case count =>
    unfold wpCount
    split <;> trivial
  case get1 =>
    unfold wpGet1
    split <;> trivial
  case get2 =>
    unfold wpGet2
    split <;> trivial
theorem wpAug_mono {op : Op} {x y : D} {s : S} (hQ : ∀ d s, Q d s → Q' d s) : wpAug op x y s Q → wpAug op x y s Q' := by
  unfold wpAug
  split <;> trivial
theorem wpSet_mono {x k v : D} {s : S} {R R' : S → Prop} (hQ : ∀ s, R s → R' s) : wpSet x k v s R → wpSet x k v s R' := by
  unfold wpSet
  split <;> trivial
theorem wpIter_mono {x : D} {s : S} {R R' : ItP} (hQ : ∀ c xs s, R c xs s → R' c xs s) : wpIter x s R → wpIter x s R' := by
  unfold wpIter
  split
  · exact hQ _ _ _
  · exact Exists.imp fun _ => And.imp id (hQ _ _ _)
  · exact hQ _ _ _
  · exact id
end
end PL
end

section
set_option autoImplicit false
set_option linter.all false
set_option maxHeartbeats 4000000
namespace PL
open PySem
def CsLe (C C' : Cs) : Prop := ∀ f xs s (Q Q' : Post), (∀ d s, Q d s → Q' d s) → C f xs s Q → C' f xs s Q'

theorem compL_mono {chk : S → Prop} {p : Nat} {t t' : D → S → (Option D → S → Prop) → Prop} {Q Q' : S → Prop} (ht : ∀ x s k k', (∀ y s, k y s → k' y s) → t x s k → t' x s k') (hQ : ∀ s, Q s → Q' s) :
    ∀ xs acc s, compL chk p t Q xs acc s → compL chk p t' Q' xs acc s
  | [], acc, s, h => ⟨h.1, h.2.1, hQ _ h.2.2⟩
  | x :: xs, acc, s, h => ⟨h.1, ht _ _ _ _ (fun y s' h' => by
      cases y with
      | none => exact ⟨h'.1, h'.2.imp fun s0 h0 => ⟨h0.1, compL_mono ht hQ xs acc s0 h0.2⟩⟩
      | some y => exact ⟨h'.1, h'.2.1, h'.2.2.imp fun s0 h0 => ⟨h0.1, compL_mono ht hQ xs _ s0 h0.2⟩⟩) h.2⟩
theorem forL_mono {chk : S → Prop} {t t' : D → Vs → S → (Vs → S → Prop) → Prop} {nx nx' : Vs → S → Prop} (ht : ∀ x ρ s k k', (∀ ρ s, k ρ s → k' ρ s) → t x ρ s k → t' x ρ s k') (hQ : ∀ ρ s, nx ρ s → nx' ρ s) :
    ∀ xs ρ s, forL chk t nx xs ρ s → forL chk t' nx' xs ρ s
  | [], ρ, s, h => ⟨h.1, hQ _ _ h.2⟩
  | x :: xs, ρ, s, h => ⟨h.1, ht _ _ _ _ _ (fun ρ' s' h' => h'.imp fun s0 h0 => ⟨h0.1, forL_mono ht hQ xs ρ' s0 h0.2⟩) h.2⟩
theorem whileL_mono {c c' : Vs → S → (Bool → S → Prop) → Prop} {b b' : Vs → S → (Vs → S → Prop) → Prop} {nx nx' : Vs → S → Prop} (hc : ∀ ρ s k k', (∀ x s, k x s → k' x s) → c ρ s k → c' ρ s k')
    (hb : ∀ ρ s k k', (∀ ρ s, k ρ s → k' ρ s) → b ρ s k → b' ρ s k') (hQ : ∀ ρ s, nx ρ s → nx' ρ s) : ∀ n ρ s, whileL c b nx n ρ s → whileL c' b' nx' n ρ s
  | 0, _, _, h => h.elim
  | n + 1, ρ, s, h => hc _ _ _ _ (fun x s1 h1 => by
      cases x with
      | true => exact hb _ _ _ _ (fun ρ' s' h' => h'.imp fun s0 h0 => ⟨h0.1, whileL_mono hc hb hQ n ρ' s0 h0.2⟩) h1
      | false => exact hQ _ _ h1) h

mutual
theorem wpE_mono {C C' : Cs} (hC : CsLe C C') : ∀ (e : E) {ρ : Vs} {s : S} {Q Q' : Post}, (∀ d s, Q d s → Q' d s) → wpE C e ρ s Q → wpE C' e ρ s Q'
  | .var i, ρ, s, Q, Q', hQ, h => by
    simp only [wpE] at h ⊢
    split at h
    · exact hQ _ _ h
    · exact h
  | .int i, ρ, s, Q, Q', hQ, h => hQ _ _ h
  | .str x, ρ, s, Q, Q', hQ, h => hQ _ _ h
  | .bl b, ρ, s, Q, Q', hQ, h => hQ _ _ h
  | .non, ρ, s, Q, Q', hQ, h => hQ _ _ h
  | .tup es, ρ, s, Q, Q', hQ, h => by
    simp only [wpE] at h ⊢
    exact wpEs_mono hC es (fun xs s1 h1 => hQ _ _ h1) h
  | .lst es, ρ, s, Q, Q', hQ, h => by
    simp only [wpE] at h ⊢
    exact wpEs_mono hC es (fun xs s1 h1 => newO_mono hQ h1) h
  | .dic ks vs, ρ, s, Q, Q', hQ, h => by
    simp only [wpE] at h ⊢
    exact fun p hp => wpEs_mono hC vs (fun ys s2 h2 => ⟨h2.1, hQ _ _ h2.2⟩) (h p hp)
  | .bin op a b, ρ, s, Q, Q', hQ, h => by
    simp only [wpE] at h ⊢
    exact wpE_mono hC a (fun x s1 h1 => wpE_mono hC b (fun y s2 h2 => wpBin_mono hQ h2) h1) h
  | .neg a, ρ, s, Q, Q', hQ, h => by
    simp only [wpE] at h ⊢
    refine wpE_mono hC a (fun x s1 h1 => ?_) h
    split at h1
    · exact hQ _ _ h1
    · exact h1
  | .not a, ρ, s, Q, Q', hQ, h => by
    simp only [wpE] at h ⊢
    refine wpE_mono hC a (fun x s1 h1 => ?_) h
    split at h1
    · exact hQ _ _ h1
    · exact h1
  | .and es, ρ, s, Q, Q', hQ, h => by
    simp only [wpE] at h ⊢
    exact wpAnd_mono hC es hQ h
  | .or es, ρ, s, Q, Q', hQ, h => by
    simp only [wpE] at h ⊢
    exact wpOr_mono hC es hQ h
  | .ife c a b, ρ, s, Q, Q', hQ, h => by
    simp only [wpE] at h ⊢
    refine wpT_mono hC c (fun t s1 h1 => ?_) h
    cases t with
    | true => exact wpE_mono hC a hQ h1
    | false => exact wpE_mono hC b hQ h1
  | .cmp op a b, ρ, s, Q, Q', hQ, h => by
    simp only [wpE] at h ⊢
    exact wpE_mono hC a (fun x s1 h1 => wpE_mono hC b (fun y s2 h2 => wpCm_mono hQ h2) h1) h
  | .chain o1 o2 a b c, ρ, s, Q, Q', hQ, h => by
    simp only [wpE] at h ⊢
    refine wpE_mono hC a (fun x s1 h1 => wpE_mono hC b (fun y s2 h2 => wpCm_mono (fun t s3 h3 => ?_) h2) h1) h
    split at h3
    · exact wpE_mono hC c (fun z s4 h4 => wpCm_mono hQ h4) h3
    · exact hQ _ _ h3
    · exact h3
  | .isN n a, ρ, s, Q, Q', hQ, h => by
    simp only [wpE] at h ⊢
    exact wpE_mono hC a (fun x s1 h1 => hQ _ _ h1) h
  | .call f es, ρ, s, Q, Q', hQ, h => by
    simp only [wpE] at h ⊢
    exact wpEs_mono hC es (fun xs s1 h1 => hC _ _ _ _ _ hQ h1) h
  | .bi b es, ρ, s, Q, Q', hQ, h => by
    simp only [wpE] at h ⊢
    exact wpEs_mono hC es (fun xs s1 h1 => wpBi_mono hQ h1) h
  | .mt m o es, ρ, s, Q, Q', hQ, h => by
    simp only [wpE] at h ⊢
    exact wpE_mono hC o (fun x s1 h1 => ⟨h1.1, wpEs_mono hC es (fun xs s2 h2 => wpMt_mono hQ h2) h1.2⟩) h
  | .ix a b, ρ, s, Q, Q', hQ, h => by
    simp only [wpE] at h ⊢
    exact wpE_mono hC a (fun x s1 h1 => wpE_mono hC b (fun y s2 h2 => wpIx_mono hQ h2) h1) h
  | .sl a lo hi, ρ, s, Q, Q', hQ, h => by
    simp only [wpE] at h ⊢
    exact wpE_mono hC a (fun x s1 h1 => wpO_mono hC lo (fun l s2 h2 => wpO_mono hC hi (fun u s3 h3 => wpSl_mono hQ h3) h2) h1) h
  | .val _, _, _, _, _, _, h => by simp only [wpE] at h
  | .rng _, _, _, _, _, _, h => by simp only [wpE] at h
  | .zip _ _, _, _, _, _, _, h => by simp only [wpE] at h
  | .rev _, _, _, _, _, _, h => by simp only [wpE] at h
  | .itm _, _, _, _, _, _, h => by simp only [wpE] at h
  | .vls _, _, _, _, _, _, h => by simp only [wpE] at h
  | .comp el tg tup it cond own, ρ, s, Q, Q', hQ, h => by
    simp only [wpE] at h ⊢
    refine wpI_mono hC it (fun chk xs s1 h1 => fun p hp => ?_) h
    refine compL_mono (fun x s2 k k' hk h2 => ?_) (fun s' h' => hQ _ _ h') _ _ _ (h1 p hp)
    split at h2
    · exact h2
    · refine wpC_mono hC cond (fun b s3 h3 => ?_) h2
      cases b with
      | true => exact wpE_mono hC el (fun y s4 h4 => hk _ _ h4) h3
      | false => exact hk _ _ h3
  | .comp2 .., _, _, _, _, _, h => by simp only [wpE] at h
theorem wpEs_mono {C C' : Cs} (hC : CsLe C C') : ∀ (es : List E) {ρ : Vs} {s : S} {Q Q' : List D → S → Prop}, (∀ d s, Q d s → Q' d s) → wpEs C es ρ s Q → wpEs C' es ρ s Q'
  | [], ρ, s, Q, Q', hQ, h => hQ _ _ h
  | e :: es, ρ, s, Q, Q', hQ, h => by
    simp only [wpEs] at h ⊢
    exact wpE_mono hC e (fun x s1 h1 => wpEs_mono hC es (fun xs s2 h2 => hQ _ _ h2) h1) h
theorem wpO_mono {C C' : Cs} (hC : CsLe C C') : ∀ (o : Option E) {ρ : Vs} {s : S} {Q Q' : Option Int → S → Prop}, (∀ d s, Q d s → Q' d s) → wpO C o ρ s Q → wpO C' o ρ s Q'
  | none, ρ, s, Q, Q', hQ, h => by
    simp only [wpO] at h ⊢
    exact hQ _ _ h
  | some e, ρ, s, Q, Q', hQ, h => by
    simp only [wpO] at h ⊢
    refine wpE_mono hC e (fun x s1 h1 => ?_) h
    split at h1
    · exact hQ _ _ h1
    · exact h1
theorem wpC_mono {C C' : Cs} (hC : CsLe C C') : ∀ (o : Option E) {ρ : Vs} {s : S} {Q Q' : Bool → S → Prop}, (∀ d s, Q d s → Q' d s) → wpC C o ρ s Q → wpC C' o ρ s Q'
  | none, ρ, s, Q, Q', hQ, h => by
    simp only [wpC] at h ⊢
    exact hQ _ _ h
  | some e, ρ, s, Q, Q', hQ, h => by
    simp only [wpC] at h ⊢
    exact wpT_mono hC e hQ h
theorem wpAnd_mono {C C' : Cs} (hC : CsLe C C') : ∀ (es : List E) {ρ : Vs} {s : S} {Q Q' : Post}, (∀ d s, Q d s → Q' d s) → wpAnd C es ρ s Q → wpAnd C' es ρ s Q'
  | [], ρ, s, Q, Q', hQ, h => by simp only [wpAnd] at h
  | [e], ρ, s, Q, Q', hQ, h => by
    simp only [wpAnd] at h ⊢
    exact wpE_mono hC e hQ h
  | e :: e' :: es, ρ, s, Q, Q', hQ, h => by
    simp only [wpAnd] at h ⊢
    refine wpE_mono hC e (fun x s1 h1 => ?_) h
    split at h1
    · exact wpAnd_mono hC (e' :: es) hQ h1
    · exact hQ _ _ h1
    · exact h1
theorem wpOr_mono {C C' : Cs} (hC : CsLe C C') : ∀ (es : List E) {ρ : Vs} {s : S} {Q Q' : Post}, (∀ d s, Q d s → Q' d s) → wpOr C es ρ s Q → wpOr C' es ρ s Q'
  | [], ρ, s, Q, Q', hQ, h => by simp only [wpOr] at h
  | [e], ρ, s, Q, Q', hQ, h => by
    simp only [wpOr] at h ⊢
    exact wpE_mono hC e hQ h
  | e :: e' :: es, ρ, s, Q, Q', hQ, h => by
    simp only [wpOr] at h ⊢
    refine wpE_mono hC e (fun x s1 h1 => ?_) h
    split at h1
    · exact hQ _ _ h1
    · exact wpOr_mono hC (e' :: es) hQ h1
    · exact h1
theorem wpT_mono {C C' : Cs} (hC : CsLe C C') : ∀ (e : E) {ρ : Vs} {s : S} {Q Q' : Bool → S → Prop}, (∀ d s, Q d s → Q' d s) → wpT C e ρ s Q → wpT C' e ρ s Q' := fun e => by
  intro ρ s Q Q' hQ h
  unfold wpT at h ⊢
  split at h
  · next a => exact wpT_mono hC a (fun b s1 h1 => hQ _ _ h1) h
  · next es => exact wpAndT_mono hC es hQ h
  · next es => exact wpOrT_mono hC es hQ h
  · next c a b =>
    refine wpT_mono hC c (fun t s1 h1 => ?_) h
    cases t with
    | true => exact wpT_mono hC a hQ h1
    | false => exact wpT_mono hC b hQ h1
  · next n a => exact wpE_mono hC a (fun x s1 h1 => hQ _ _ h1) h
  · next o1 o2 a b c =>
    refine wpE_mono hC a (fun x s1 h1 => wpE_mono hC b (fun y s2 h2 => wpCm_mono (fun t s3 h3 => ?_) h2) h1) h
    split at h3
    · refine wpE_mono hC c (fun z s4 h4 => wpCm_mono (fun t s5 h5 => ?_) h4) h3
      split at h5
      · exact hQ _ _ h5
      · exact h5
    · exact hQ _ _ h3
    · exact h3
  · next op a b =>
    refine wpE_mono hC a (fun x s1 h1 => wpE_mono hC b (fun y s2 h2 => wpCm_mono (fun t s3 h3 => ?_) h2) h1) h
    split at h3
    · exact hQ _ _ h3
    · exact h3
  · next e =>
    refine wpE_mono hC e (fun x s1 h1 => ?_) h
    split at h1
    · exact hQ _ _ h1
    · exact h1
  · exact h
theorem wpAndT_mono {C C' : Cs} (hC : CsLe C C') : ∀ (es : List E) {ρ : Vs} {s : S} {Q Q' : Bool → S → Prop}, (∀ d s, Q d s → Q' d s) → wpAndT C es ρ s Q → wpAndT C' es ρ s Q'
  | [], ρ, s, Q, Q', hQ, h => by simp only [wpAndT] at h
  | [e], ρ, s, Q, Q', hQ, h => by
    simp only [wpAndT] at h ⊢
    exact wpT_mono hC e hQ h
  | e :: e' :: es, ρ, s, Q, Q', hQ, h => by
    simp only [wpAndT] at h ⊢
    refine wpT_mono hC e (fun x s1 h1 => ?_) h
    cases x with
    | true => exact wpAndT_mono hC (e' :: es) hQ h1
    | false => exact hQ _ _ h1
theorem wpOrT_mono {C C' : Cs} (hC : CsLe C C') : ∀ (es : List E) {ρ : Vs} {s : S} {Q Q' : Bool → S → Prop}, (∀ d s, Q d s → Q' d s) → wpOrT C es ρ s Q → wpOrT C' es ρ s Q'
  | [], ρ, s, Q, Q', hQ, h => by simp only [wpOrT] at h
  | [e], ρ, s, Q, Q', hQ, h => by
    simp only [wpOrT] at h ⊢
    exact wpT_mono hC e hQ h
  | e :: e' :: es, ρ, s, Q, Q', hQ, h => by
    simp only [wpOrT] at h ⊢
    refine wpT_mono hC e (fun x s1 h1 => ?_) h
    cases x with
    | true => exact hQ _ _ h1
    | false => exact wpOrT_mono hC (e' :: es) hQ h1
theorem wpI_mono {C C' : Cs} (hC : CsLe C C') : ∀ (e : E) {ρ : Vs} {s : S} {R R' : ItP}, (∀ c xs s, R c xs s → R' c xs s) → wpI C e ρ s R → wpI C' e ρ s R' := fun e => by
  intro ρ s R R' hR h
  unfold wpI at h ⊢
  split at h
  · next es =>
    refine wpEs_mono hC es (fun xs s1 h1 => ?_) h
    split at h1
    · exact hR _ _ _ h1
    · exact h1
  · next a b =>
    refine wpE_mono hC a (fun x s1 h1 => wpE_mono hC b (fun y s2 h2 => ?_) h1) h
    split at h2
    · exact hR _ _ _ h2
    · exact h2
  · next a =>
    refine wpE_mono hC a (fun x s1 h1 => ?_) h
    split at h1
    · exact hR _ _ _ h1
    · exact h1
  · next a =>
    refine wpE_mono hC a (fun x s1 h1 => ?_) h
    split at h1
    · exact h1.imp fun kvs h2 => ⟨h2.1, hR _ _ _ h2.2⟩
    · exact h1
  · next e => exact wpE_mono hC e (fun x s1 h1 => wpIter_mono hR h1) h
  · exact h
end
end PL
end

section
set_option autoImplicit false
set_option linter.all false
set_option maxHeartbeats 4000000
namespace PL
open PySem
structure DsLe (K K' : Ds) : Prop where
  nx : ∀ ρ s, K.nx ρ s → K'.nx ρ s
  rt : ∀ d s, K.rt d s → K'.rt d s
  bk : ∀ ρ s, K.bk ρ s → K'.bk ρ s
  ct : ∀ ρ s, K.ct ρ s → K'.ct ρ s
mutual
theorem wpTg_mono {C C' : Cs} (hC : CsLe C C') : ∀ (t : Tg) {d : D} {ρ : Vs} {s : S} {k k' : Vs → S → Prop}, (∀ ρ s, k ρ s → k' ρ s) → wpTg C t d ρ s k → wpTg C' t d ρ s k'
  | .name i, d, ρ, s, k, k', hk, h => by
    simp only [wpTg] at h ⊢
    exact hk _ _ h
  | .tup ts, d, ρ, s, k, k', hk, h => by
    simp only [wpTg] at h ⊢
    split at h
    · exact ⟨h.1, wpTgs_mono hC ts hk h.2⟩
    · exact h
  | .sub o i, d, ρ, s, k, k', hk, h => by
    simp only [wpTg] at h ⊢
    exact wpE_mono hC o (fun x s1 h1 => wpE_mono hC i (fun y s2 h2 => wpSet_mono (fun s3 h3 => hk _ _ h3) h2) h1) h
theorem wpTgs_mono {C C' : Cs} (hC : CsLe C C') : ∀ (ts : List Tg) {ds : List D} {ρ : Vs} {s : S} {k k' : Vs → S → Prop}, (∀ ρ s, k ρ s → k' ρ s) → wpTgs C ts ds ρ s k → wpTgs C' ts ds ρ s k'
  | [], [], ρ, s, k, k', hk, h => by
    simp only [wpTgs] at h ⊢
    exact hk _ _ h
  | t :: ts, d :: ds, ρ, s, k, k', hk, h => by
    simp only [wpTgs] at h ⊢
    exact wpTg_mono hC t (fun ρ' s' h' => wpTgs_mono hC ts hk h') h
  | [], _ :: _, ρ, s, k, k', hk, h => by simp only [wpTgs] at h
  | _ :: _, [], ρ, s, k, k', hk, h => by simp only [wpTgs] at h
end
mutual
theorem wpS_mono {C C' : Cs} (hC : CsLe C C') : ∀ (st : St) {K K' : Ds} {ρ : Vs} {s : S}, DsLe K K' → wpS C st K ρ s → wpS C' st K' ρ s
  | .asg tg e, K, K', ρ, s, hK, h => by
    simp only [wpS] at h ⊢
    exact wpE_mono hC e (fun x s1 h1 => wpTg_mono hC tg hK.nx h1) h
  | .aug i op e, K, K', ρ, s, hK, h => by
    simp only [wpS] at h ⊢
    split at h
    · exact wpE_mono hC e (fun x s1 h1 => wpAug_mono (fun z s2 h2 => hK.nx _ _ h2) h1) h
    · exact h
  | .augS o i op e, K, K', ρ, s, hK, h => by
    simp only [wpS] at h ⊢
    exact wpE_mono hC o (fun x s1 h1 => wpE_mono hC i (fun y s2 h2 => wpGet_mono (fun v s3 h3 => wpE_mono hC e (fun z s4 h4 => wpAug_mono (fun u s5 h5 => wpSet_mono (fun s6 h6 => hK.nx _ _ h6) h5) h4) h3) h2) h1) h
  | .ife c a b, K, K', ρ, s, hK, h => by
    simp only [wpS] at h ⊢
    refine wpT_mono hC c (fun t s1 h1 => ?_) h
    cases t with
    | true => exact wpSs_mono hC a hK h1
    | false => exact wpSs_mono hC b hK h1
  | .for tg it body, K, K', ρ, s, hK, h => by
    simp only [wpS] at h ⊢
    refine wpI_mono hC it (fun chk xs s1 h1 => ?_) h
    exact forL_mono (fun x ρ s k k' hk h2 => wpTg_mono hC tg (fun ρ2 s2 h3 => wpSs_mono hC body (show DsLe ⟨k, K.rt, K.nx, k⟩ ⟨k', K'.rt, K'.nx, k'⟩ from ⟨hk, hK.rt, hK.nx, hk⟩) h3) h2) hK.nx xs ρ s1 h1
  | .while c body, K, K', ρ, s, hK, h => by
    simp only [wpS] at h ⊢
    obtain ⟨n, h⟩ := h
    refine ⟨n, whileL_mono ?_ ?_ hK.nx n ρ s h⟩
    · intro ρ s k k' hk h2
      exact wpT_mono hC c hk h2
    · intro ρ s k k' hk h2
      exact wpSs_mono hC body (show DsLe ⟨k, K.rt, K.nx, k⟩ ⟨k', K'.rt, K'.nx, k'⟩ from ⟨hk, hK.rt, hK.nx, hk⟩) h2
  | .ret e, K, K', ρ, s, hK, h => by
    simp only [wpS] at h ⊢
    exact wpE_mono hC e hK.rt h
  | .retN, K, K', ρ, s, hK, h => by
    simp only [wpS] at h ⊢
    exact hK.rt _ _ h
  | .expr e, K, K', ρ, s, hK, h => by
    simp only [wpS] at h ⊢
    exact wpE_mono hC e (fun _ s1 h1 => hK.nx _ _ h1) h
  | .pass, K, K', ρ, s, hK, h => by
    simp only [wpS] at h ⊢
    exact hK.nx _ _ h
  | .brk, K, K', ρ, s, hK, h => by
    simp only [wpS] at h ⊢
    exact hK.bk _ _ h
  | .cont, K, K', ρ, s, hK, h => by
    simp only [wpS] at h ⊢
    exact hK.ct _ _ h
theorem wpSs_mono {C C' : Cs} (hC : CsLe C C') : ∀ (st : List St) {K K' : Ds} {ρ : Vs} {s : S}, DsLe K K' → wpSs C st K ρ s → wpSs C' st K' ρ s
  | [], K, K', ρ, s, hK, h => by
    simp only [wpSs] at h ⊢
    exact hK.nx _ _ h
  | st :: r, K, K', ρ, s, hK, h => by
    simp only [wpSs] at h ⊢
    exact wpS_mono hC st (show DsLe ⟨fun ρ' s' => wpSs C r K ρ' s', K.rt, K.bk, K.ct⟩ ⟨fun ρ' s' => wpSs C' r K' ρ' s', K'.rt, K'.bk, K'.ct⟩ from ⟨fun ρ' s' h' => wpSs_mono hC r hK h', hK.rt, hK.bk, hK.ct⟩) h
end
theorem retD_le {Q Q' : Post} (hQ : ∀ d s, Q d s → Q' d s) : DsLe (retD Q) (retD Q') :=
  ⟨fun _ _ ⟨s0, l, q⟩ => ⟨s0, l, hQ _ _ q⟩, fun _ _ ⟨s0, l, q⟩ => ⟨s0, l, hQ _ _ q⟩, fun _ _ h => h, fun _ _ h => h⟩
theorem wpF_mono (P : Prog) : ∀ k : Nat, CsLe (wpF P k) (wpF P k)
  | 0 => fun _ _ _ _ _ _ h => h.elim
  | k + 1 => fun f xs s Q Q' hQ h => by
    simp only [wpF] at h ⊢
    split at h
    · exact ⟨h.1, wpSs_mono (wpF_mono P k) _ (retD_le hQ) h.2⟩
    · exact h
theorem wpF_le (P : Prog) : ∀ k : Nat, CsLe (wpF P k) (wpF P (k + 1))
  | 0 => fun _ _ _ _ _ _ h => h.elim
  | k + 1 => fun f xs s Q Q' hQ h => by
    rw [wpF] at h ⊢
    split at h
    · exact ⟨h.1, wpSs_mono (wpF_le P k) _ (retD_le hQ) h.2⟩
    · exact h
end PL
end

section
set_option Elab.async false
set_option linter.all false
set_option maxRecDepth 100000
namespace PL
open PySem PySem.Spec PyProof.Rows L2

/-! ## how the pure things lie in the abstract heap -/
/-- the module's written part; where the script stands (its place in a store is 0; the place n + 1 is the address n) -/
structure Kc where
  K : PySem.W.Frag
  a : Addr
def Kc.adr (K : Kc) : Nat → Addr
  | 0 => K.a
  | n + 1 => n
mutual
def RepD (K : Kc) (H : Hp) : D → V → Prop
  | .non, v => v = .non
  | .bl b, v => v = .bl b
  | .int i, v => v = .int i
  | .str x, v => v = .str x
  | .tup ds, v => ∃ a vs, v = .ref a ∧ SqT K.K H a vs ∧ RepDs K H ds vs
  | .loc a, v => v = .ref (K.adr a)
def RepDs (K : Kc) (H : Hp) : List D → List V → Prop
  | [], vs => vs = []
  | d :: ds, vs => ∃ v r, vs = v :: r ∧ RepD K H d v ∧ RepDs K H ds r
end
/-- pairs of a dict -/
def RepKV (K : Kc) (H : Hp) : List (D × D) → List (Key × V) → Prop
  | [], kvs => kvs = []
  | (k, v) :: r, kvs => ∃ k' v' r', kvs = (k', v') :: r' ∧ RepD K H k (kV k') ∧ RepD K H v v' ∧ RepKV K H r r'
/-- the script: locked, or of the written part -/
def RoL (K : Kc) (H : Hp) (xs : List V) : Prop := (∃ ob, H K.a = some (.frz ob (.lst xs))) ∨
  ∃ (o : Obj) (its : Array Value) (n : Nat), K.K.lookup K.a = some o ∧ o.cls = .type "list" ∧ o.dict = none ∧ o.data = .seq its n ∧ its.size ≤ sizeLine ∧ Vals xs its.toList
theorem RoL.seq {K : Kc} {H : Hp} {xs : List V} (h : RoL K H xs) : SqL K.K H K.a xs := by
  rcases h with h | h
  · exact .inl (.inr h)
  · exact .inr h
theorem RoL.of {K : Kc} {H : Hp} {xs : List V} (h : SqL K.K H K.a xs) (o : Only H) : RoL K H xs := by
  rcases h with (h | h) | h
  · rcases o K.a with z | ⟨ob, ys, z⟩
    · rw [h] at z; cases z
    · rw [h] at z; cases z
  · exact .inl h
  · exact .inr h
def RepO (K : Kc) (H : Hp) (l : Nat) : O → Prop
  | .lst xs => ∃ n vs, l = n + 1 ∧ H n = some (.lst vs) ∧ RepDs K H xs vs
  | .rol xs => ∃ vs, l = 0 ∧ RoL K H vs ∧ RepDs K H xs vs
  | .dic kvs => ∃ n ks, l = n + 1 ∧ H n = some (.dK ks) ∧ RepKV K H kvs ks
  | .set _ => False
  | .ins _ _ => False
def RepS (K : Kc) (H : Hp) (s : PL.S) : Prop := ∀ a o, s a = some o → RepO K H a o
def RepE (K : Kc) (H : Hp) (ρ : Vs) (σ : L2.St) : Prop := ρ.length = σ.length ∧ ∀ (i : Nat) (d : D), ρ[i]? = some (some d) → ∃ v, σ[i]? = some (some v) ∧ RepD K H d v
/-- what is never lost -/
def Keep (K : Kc) (H H' : Hp) : Prop := ∀ a vs, SqT K.K H a vs → SqT K.K H' a vs
theorem Keep.refl {K : Kc} {H : Hp} : Keep K H H := fun _ _ h => h
theorem Keep.trans {K : Kc} {H H1 H2 : Hp} (h : Keep K H H1) (h' : Keep K H1 H2) : Keep K H H2 := fun a vs q => h' a vs (h a vs q)
mutual
theorem RepD.keep {K : Kc} {H H' : Hp} (k : Keep K H H') : ∀ (d : D) (v : V), RepD K H d v → RepD K H' d v
  | .non, _, h => h
  | .bl _, _, h => h
  | .int _, _, h => h
  | .str _, _, h => h
  | .loc _, _, h => h
  | .tup ds, v, h => by
    simp only [RepD] at h ⊢
    obtain ⟨a, vs, e, q, r⟩ := h
    exact ⟨a, vs, e, k _ _ q, RepDs.keep k ds vs r⟩
theorem RepDs.keep {K : Kc} {H H' : Hp} (k : Keep K H H') : ∀ (ds : List D) (vs : List V), RepDs K H ds vs → RepDs K H' ds vs
  | [], vs, h => h
  | d :: ds, vs, h => by
    simp only [RepDs] at h ⊢
    obtain ⟨v, r, e, q, t⟩ := h
    exact ⟨v, r, e, RepD.keep k d v q, RepDs.keep k ds r t⟩
end
theorem RepE.keep {K : Kc} {H H' : Hp} {ρ : Vs} {σ : L2.St} (k : Keep K H H') (h : RepE K H ρ σ) : RepE K H' ρ σ := ⟨h.1, fun i d e =>
  let ⟨v, e', r⟩ := h.2 i d e
  ⟨v, e', RepD.keep k d v r⟩⟩
theorem RepKV.keep {K : Kc} {H H' : Hp} (k : Keep K H H') : ∀ (kvs : List (D × D)) (ks : List (Key × V)), RepKV K H kvs ks → RepKV K H' kvs ks
  | [], _, h => h
  | (x, y) :: r, ks, h => by
    simp only [RepKV] at h ⊢
    obtain ⟨k', v', r', e, q1, q2, t⟩ := h
    exact ⟨k', v', r', e, RepD.keep k _ _ q1, RepD.keep k _ _ q2, RepKV.keep k r r' t⟩
theorem RepDs.length {K : Kc} {H : Hp} : ∀ {ds : List D} {vs : List V}, RepDs K H ds vs → ds.length = vs.length
  | [], vs, h => by cases h; rfl
  | d :: ds, vs, h => by
    simp only [RepDs] at h
    obtain ⟨v, r, rfl, _, t⟩ := h
    simp [RepDs.length t]
theorem RepDs.append {K : Kc} {H : Hp} : ∀ {ds es : List D} {vs ws : List V}, RepDs K H ds vs → RepDs K H es ws → RepDs K H (ds ++ es) (vs ++ ws)
  | [], es, vs, ws, h, h' => by cases h; exact h'
  | d :: ds, es, vs, ws, h, h' => by
    simp only [RepDs] at h
    obtain ⟨v, r, rfl, q, t⟩ := h
    show RepDs K H (d :: (ds ++ es)) _
    simp only [RepDs]
    exact ⟨v, r ++ ws, rfl, q, RepDs.append t h'⟩
theorem RepDs.take {K : Kc} {H : Hp} : ∀ (n : Nat) {ds : List D} {vs : List V}, RepDs K H ds vs → RepDs K H (ds.take n) (vs.take n)
  | 0, ds, vs, h => by simp [RepDs]
  | n + 1, [], vs, h => by cases h; simp [RepDs]
  | n + 1, d :: ds, vs, h => by
    simp only [RepDs] at h
    obtain ⟨v, r, rfl, q, t⟩ := h
    simp only [List.take_succ_cons, RepDs]
    exact ⟨v, r.take n, rfl, q, RepDs.take n t⟩
theorem RepDs.drop {K : Kc} {H : Hp} : ∀ (n : Nat) {ds : List D} {vs : List V}, RepDs K H ds vs → RepDs K H (ds.drop n) (vs.drop n)
  | 0, ds, vs, h => h
  | n + 1, [], vs, h => by cases h; simp [RepDs]
  | n + 1, d :: ds, vs, h => by
    simp only [RepDs] at h
    obtain ⟨v, r, rfl, q, t⟩ := h
    exact RepDs.drop n t
theorem RepDs.get {K : Kc} {H : Hp} : ∀ {i : Nat} {ds : List D} {vs : List V} {d : D}, RepDs K H ds vs → ds[i]? = some d → ∃ v, vs[i]? = some v ∧ RepD K H d v
  | i, [], vs, d, h, e => by simp at e
  | 0, d :: ds, vs, d', h, e => by
    simp only [RepDs] at h
    obtain ⟨v, r, rfl, q, t⟩ := h
    simp at e; subst e
    exact ⟨v, rfl, q⟩
  | i + 1, d :: ds, vs, d', h, e => by
    simp only [RepDs] at h
    obtain ⟨v, r, rfl, q, t⟩ := h
    exact RepDs.get (i := i) t (by simpa using e)
theorem RepDs.set {K : Kc} {H : Hp} {d : D} {v : V} (q : RepD K H d v) : ∀ (i : Nat) {ds : List D} {vs : List V}, RepDs K H ds vs → RepDs K H (ds.set i d) (vs.set i v)
  | i, [], vs, h => by cases h; simp [RepDs]
  | 0, e :: ds, vs, h => by
    simp only [RepDs] at h
    obtain ⟨v', r, rfl, _, t⟩ := h
    simp only [List.set_cons_zero, RepDs]
    exact ⟨v, r, rfl, q, t⟩
  | i + 1, e :: ds, vs, h => by
    simp only [RepDs] at h
    obtain ⟨v', r, rfl, q', t⟩ := h
    simp only [List.set_cons_succ, RepDs]
    exact ⟨v', r.set i v, rfl, q', RepDs.set q i t⟩
theorem RepDs.eraseIdx {K : Kc} {H : Hp} : ∀ (i : Nat) {ds : List D} {vs : List V}, RepDs K H ds vs → RepDs K H (ds.eraseIdx i) (vs.eraseIdx i)
  | i, [], vs, h => by cases h; simp [RepDs]
  | 0, e :: ds, vs, h => by
    simp only [RepDs] at h
    obtain ⟨v', r, rfl, _, t⟩ := h
    exact t
  | i + 1, e :: ds, vs, h => by
    simp only [RepDs] at h
    obtain ⟨v', r, rfl, q', t⟩ := h
    simp only [List.eraseIdx_cons_succ, RepDs]
    exact ⟨v', r.eraseIdx i, rfl, q', RepDs.eraseIdx i t⟩
theorem RepDs.rep {K : Kc} {H : Hp} {ds : List D} {vs : List V} (h : RepDs K H ds vs) : ∀ k : Nat, RepDs K H (List.replicate k ds).flatten (List.replicate k vs).flatten
  | 0 => by simp [RepDs]
  | k + 1 => by
    simp only [List.replicate_succ, List.flatten_cons]
    exact h.append (RepDs.rep h k)
theorem RepDs.one {K : Kc} {H : Hp} {d : D} {v : V} (q : RepD K H d v) : RepDs K H [d] [v] := by
  simp only [RepDs]; exact ⟨v, [], rfl, q, rfl⟩
theorem RepDs.nil {K : Kc} {H : Hp} : RepDs K H [] [] := by simp [RepDs]
theorem RepDs.cons {K : Kc} {H : Hp} {d : D} {v : V} {ds : List D} {vs : List V} (q : RepD K H d v) (t : RepDs K H ds vs) : RepDs K H (d :: ds) (v :: vs) := by
  simp only [RepDs]; exact ⟨v, vs, rfl, q, t⟩
theorem RepDs.ints {K : Kc} {H : Hp} : ∀ {ns : List Int} {vs : List V}, RepDs K H (ns.map D.int) vs → vs = ns.map V.int
  | [], vs, h => h
  | n :: ns, vs, h => by
    simp only [List.map_cons, RepDs] at h
    obtain ⟨v, r, rfl, q, t⟩ := h
    simp only [RepD] at q
    rw [q, RepDs.ints t]; rfl
theorem RepDs.bls {K : Kc} {H : Hp} : ∀ {ns : List Bool} {vs : List V}, RepDs K H (ns.map D.bl) vs → vs = ns.map V.bl
  | [], vs, h => h
  | n :: ns, vs, h => by
    simp only [List.map_cons, RepDs] at h
    obtain ⟨v, r, rfl, q, t⟩ := h
    simp only [RepD] at q
    rw [q, RepDs.bls t]; rfl

/-! ### new objects, writes -/
section
variable {K : Kc} {H : Hp} {s : PL.S} {p : Addr} {o : HO}
theorem SqT.up (hp : H p = none) {a : Addr} {vs : List V} (h : SqT K.K H a vs) : SqT K.K (upd H p o) a vs := by
  rcases h with (h | ⟨ob, h⟩) | h
  · exact .inl (.inl (by rw [upd_ne (ne_of_none h hp)]; exact h))
  · exact .inl (.inr ⟨ob, by rw [upd_ne (ne_of_none h hp)]; exact h⟩)
  · exact .inr h
theorem SqL.up (hp : H p = none) {a : Addr} {vs : List V} (h : SqL K.K H a vs) : SqL K.K (upd H p o) a vs := by
  rcases h with (h | ⟨ob, h⟩) | h
  · exact .inl (.inl (by rw [upd_ne (ne_of_none h hp)]; exact h))
  · exact .inl (.inr ⟨ob, by rw [upd_ne (ne_of_none h hp)]; exact h⟩)
  · exact .inr h
theorem Keep.up (hp : H p = none) : Keep K H (upd H p o) := fun _ _ h => SqT.up hp h
/-- a written list, dict, instance .. is no tuple -/
def NoTup : HO → Prop
  | .tup _ => False
  | .frz _ _ => False
  | _ => True
theorem Keep.write {o' : HO} (h : H p = some o) (n : NoTup o) : Keep K H (upd H p o') := fun a vs q => by
  rcases q with (q | ⟨ob, q⟩) | q
  · by_cases e : a = p
    · subst e; rw [h] at q; cases q; exact n.elim
    · exact .inl (.inl (by rw [upd_ne e]; exact q))
  · by_cases e : a = p
    · subst e; rw [h] at q; cases q; exact n.elim
    · exact .inl (.inr ⟨ob, by rw [upd_ne e]; exact q⟩)
  · exact .inr q
theorem RoL.up (hp : H p = none) {vs : List V} (h : RoL K H vs) : RoL K (upd H p o) vs := by
  rcases h with ⟨ob, h⟩ | h
  · exact .inl ⟨ob, by rw [upd_ne (ne_of_none h hp)]; exact h⟩
  · exact .inr h
theorem RepO.up (hp : H p = none) {l : Nat} {u : O} (h : RepO K H l u) : RepO K (upd H p o) l u := by
  cases u with
  | lst xs =>
    obtain ⟨n, vs, e0, e, r⟩ := h
    exact ⟨n, vs, e0, by rw [upd_ne (ne_of_none e hp)]; exact e, RepDs.keep (Keep.up hp) _ _ r⟩
  | rol xs =>
    obtain ⟨vs, e0, e, r⟩ := h
    exact ⟨vs, e0, RoL.up hp e, RepDs.keep (Keep.up hp) _ _ r⟩
  | dic kvs =>
    obtain ⟨n, vs, e0, e, r⟩ := h
    exact ⟨n, vs, e0, by rw [upd_ne (ne_of_none e hp)]; exact e, RepKV.keep (Keep.up hp) _ _ r⟩
  | set _ => exact h.elim
  | ins _ _ => exact h.elim
theorem RepS.up (hp : H p = none) (h : RepS K H s) : RepS K (upd H p o) s := fun a u e => (h a u e).up hp
/-- nothing is known of a free address -/
theorem RepS.no (hp : H p = none) (h : RepS K H s) : s (p + 1) = none := by
  cases e : s (p + 1) with
  | none => rfl
  | some u =>
    have q := h _ _ e
    cases u with
    | lst xs => obtain ⟨n, vs, e0, e, _⟩ := q; cases e0; rw [hp] at e; cases e
    | rol xs => obtain ⟨vs, e0, _⟩ := q; cases e0
    | dic xs => obtain ⟨n, vs, e0, e, _⟩ := q; cases e0; rw [hp] at e; cases e
    | set _ => exact q.elim
    | ins _ _ => exact q.elim
/-- a new object, told -/
theorem RepS.new {u : O} (hp : H p = none) (h : RepS K H s) (n : RepO K (upd H p o) (p + 1) u) : RepS K (upd H p o) (s.up (p + 1) u) := fun a w e => by
  unfold S.up at e
  split at e
  · next q => subst q; cases e; exact n
  · exact (h a w e).up hp
theorem RepO.write {o' : HO} (h : H p = some o) (n : NoTup o) {l : Nat} (ne : l ≠ p + 1) {u : O} (hu : RepO K H l u) : RepO K (upd H p o') l u := by
  have kp : Keep K H (upd H p o') := Keep.write h n
  cases u with
  | lst xs =>
    obtain ⟨m, vs, e0, e, r⟩ := hu
    exact ⟨m, vs, e0, by rw [upd_ne (fun z => ne (by rw [e0, z]))]; exact e, RepDs.keep kp _ _ r⟩
  | rol xs =>
    obtain ⟨vs, e0, e, r⟩ := hu
    refine ⟨vs, e0, ?_, RepDs.keep kp _ _ r⟩
    rcases e with ⟨ob, e⟩ | e
    · by_cases z : K.a = p
      · rw [z, h] at e; cases e; exact n.elim
      · exact .inl ⟨ob, by rw [upd_ne z]; exact e⟩
    · exact .inr e
  | dic kvs =>
    obtain ⟨m, vs, e0, e, r⟩ := hu
    exact ⟨m, vs, e0, by rw [upd_ne (fun z => ne (by rw [e0, z]))]; exact e, RepKV.keep kp _ _ r⟩
  | set _ => exact hu.elim
  | ins _ _ => exact hu.elim
theorem RepS.write {o' : HO} {u : O} (hp : H p = some o) (n : NoTup o) (h : RepS K H s) (nw : RepO K (upd H p o') (p + 1) u) : RepS K (upd H p o') (s.up (p + 1) u) := fun a w e => by
  unfold S.up at e
  split at e
  · next q => subst q; cases e; exact nw
  · next q => exact (h a w e).write hp n q
theorem RepS.le {t : PL.S} (h : RepS K H t) (l : s.le t) : RepS K H s := fun a o e => h a o (l a o e)
end
end PL
end

section
set_option Elab.async false
set_option linter.all false
set_option maxRecDepth 100000
namespace PL
open PySem PySem.Spec PyProof.Rows L2

def PQ (K : Kc) (H : Hp) (Q : VK) : Post := fun d s' => ∀ v H', Keep K H H' → RepD K H' d v → RepS K H' s' → Q v H'
def opOf : Op → Operator
  | .add => .Add | .sub => .Sub | .mul => .Mult | .fdiv => .FloorDiv | .mod => .Mod | .pow => .Pow | .shl => .LShift | .shr => .RShift | .band => .BitAnd
section
variable {K : Kc} {H : Hp} {s : PL.S} {Q : VK}
theorem PQ.here {d : D} {v : V} (q : PQ K H Q d s) (r : RepD K H d v) (hs : RepS K H s) : Q v H := q v H Keep.refl r hs
theorem PQ.int {i : Int} (q : PQ K H Q (.int i) s) (hs : RepS K H s) : Q (.int i) H := q _ H Keep.refl rfl hs
theorem PQ.bl {i : Bool} (q : PQ K H Q (.bl i) s) (hs : RepS K H s) : Q (.bl i) H := q _ H Keep.refl rfl hs
theorem PQ.non (q : PQ K H Q .non s) (hs : RepS K H s) : Q .non H := q _ H Keep.refl rfl hs
theorem PQ.str {x : Str} (q : PQ K H Q (.str x) s) (hs : RepS K H s) : Q (.str x) H := q _ H Keep.refl rfl hs
/-- a new list -/
theorem PQ.newL {xs : List D} {vs : List V} {p : Addr} (q : newO (.lst xs) s (PQ K H Q)) (hs : RepS K H s) (r : RepDs K H xs vs) (hp : H p = none) : Q (.ref p) (upd H p (.lst vs)) :=
  q (p + 1) (hs.no hp) _ _ (Keep.up hp) rfl (hs.new hp ⟨p, vs, rfl, upd_same, RepDs.keep (Keep.up hp) _ _ r⟩)
/-- a new tuple -/
theorem PQ.newT {xs : List D} {vs : List V} {p : Addr} (q : PQ K H Q (.tup xs) s) (hs : RepS K H s) (r : RepDs K H xs vs) (hp : H p = none) : Q (.ref p) (upd H p (.tup vs)) := by
  refine q _ _ (Keep.up hp) ?_ (hs.up hp)
  simp only [RepD]
  exact ⟨p, vs, rfl, .inl (.inl upd_same), RepDs.keep (Keep.up hp) _ _ r⟩
theorem RepD.tupI {xs : List D} {v : V} (r : RepD K H (.tup xs) v) : ∃ a vs, v = .ref a ∧ SqT K.K H a vs ∧ RepDs K H xs vs := by simpa only [RepD] using r
theorem RepD.tupM {xs : List D} {a : Addr} {vs : List V} (q : SqT K.K H a vs) (r : RepDs K H xs vs) : RepD K H (.tup xs) (.ref a) := by
  simp only [RepD]; exact ⟨a, vs, rfl, q, r⟩
theorem RepS.lst {l : Nat} {xs : List D} (hs : RepS K H s) (e : s l = some (.lst xs)) : ∃ n vs, l = n + 1 ∧ K.adr l = n ∧ H n = some (.lst vs) ∧ RepDs K H xs vs := by
  obtain ⟨n, vs, e0, e1, r⟩ := hs l _ e
  exact ⟨n, vs, e0, by rw [e0]; rfl, e1, r⟩
theorem RepS.seq {l : Nat} {xs : List D} (hs : RepS K H s) (e : seqAt s l = some xs) : ∃ vs, SqL K.K H (K.adr l) vs ∧ RepDs K H xs vs := by
  unfold seqAt at e
  split at e
  · next ys q =>
    cases e
    obtain ⟨n, vs, _, e1, e2, r⟩ := hs.lst q
    exact ⟨vs, by rw [e1]; exact SqL.of e2, r⟩
  · next ys q =>
    cases e
    obtain ⟨vs, e0, e1, r⟩ := hs l _ q
    exact ⟨vs, by rw [e0]; exact e1.seq, r⟩
  · cases e
/-- an operation by values -/
def rV (K : Kc) (w : D → D → PL.S → Post → Prop) : R2 := fun x y H Q => ∃ d e s, RepD K H d x ∧ RepD K H e y ∧ RepS K H s ∧ w d e s (PQ K H Q)
theorem lim_eq : sizeLine = lim := sizeLine_eq
end
section
variable {X : Cx} {K : Kc}
theorem bin_ok (hK : K.K = X.K) (hu : X.A.units + 65 < cLine) : ∀ op : Op, OpR X (binaryOp (opOf op)) (rV K (wpBin op)) := by
  intro op pins s σ H x y v u Q I rx ry ⟨d, e, t, rd, re, hs, h⟩
  unfold wpBin at h
  split at h
  · cases rd; cases re; exact op_add pins s σ H _ _ v u Q I rx ry ⟨_, _, rfl, rfl, h.int hs⟩
  · cases rd; cases re; exact op_add_str pins s σ H _ _ v u Q I rx ry ⟨_, _, rfl, rfl, by rw [lim_eq]; exact h.1, h.2.str hs⟩
  · next _ _ xs ys =>
    obtain ⟨a, vs, rfl, qa, ra⟩ := rd.tupI
    obtain ⟨b, ws, rfl, qb, rb⟩ := re.tupI
    obtain ⟨hl, h⟩ := h
    refine op_catA pins s σ H _ _ v u Q I rx ry ⟨a, b, vs, ws, rfl, rfl, by rw [← hK]; exact qa, by rw [← hK]; exact qb, by rw [lim_eq, ← ra.length, ← rb.length]; exact hl, fun z => ?_, fun _ z => ?_, fun _ _ p hp => ?_⟩
    · subst z
      have z' : xs = [] := List.eq_nil_of_length_eq_zero ra.length
      subst z'
      exact h.here (RepD.tupM qb rb) hs
    · subst z
      have z' : ys = [] := List.eq_nil_of_length_eq_zero rb.length
      subst z'
      exact h.here (by rw [List.append_nil]; exact RepD.tupM qa ra) hs
    · exact PQ.newT h hs (ra.append rb) hp
  · next _ _ a b =>
    cases rd; cases re
    obtain ⟨xs, ys, e1, e2, hl, h⟩ := h
    obtain ⟨n, vs, _, n1, q1, r1⟩ := hs.lst e1
    obtain ⟨m, ws, _, n2, q2, r2⟩ := hs.lst e2
    rw [n1] at rx; rw [n2] at ry
    exact op_cat pins s σ H _ _ v u Q I rx ry ⟨n, m, vs, ws, rfl, rfl, q1, q2, by rw [lim_eq, ← r1.length, ← r2.length]; exact hl, fun p hp => PQ.newL h hs (r1.append r2) hp⟩
  · cases rd; cases re; exact op_sub pins s σ H _ _ v u Q I rx ry ⟨_, _, rfl, rfl, h.int hs⟩
  · cases rd; cases re; exact op_mul pins s σ H _ _ v u Q I rx ry ⟨_, _, rfl, rfl, h.1, h.2.int hs⟩
  · next _ _ a k =>
    cases rd; cases re
    obtain ⟨xs, e1, h1, h2, hl, h⟩ := h
    obtain ⟨n, vs, _, n1, q1, r1⟩ := hs.lst e1
    rw [n1] at rx
    exact op_rep pins s σ H _ _ v u Q I rx ry ⟨n, k, vs, rfl, rfl, q1, h1, h2, by rw [lim_eq, ← r1.length]; exact hl, fun p hp => PQ.newL h hs (r1.rep _) hp⟩
  · next _ _ xs k =>
    obtain ⟨a, vs, rfl, qa, ra⟩ := rd.tupI
    cases re
    obtain ⟨h0, h1, h2, hl, h⟩ := h
    exact op_repT pins s σ H _ _ v u Q I rx ry ⟨a, k, vs, rfl, rfl, by rw [← hK]; exact qa, fun z => h0 (List.eq_nil_of_length_eq_zero (by rw [ra.length, z]; rfl)), h1, h2, by rw [← ra.length]; exact hl, fun p hp => PQ.newT h hs (ra.rep _) hp⟩
  · cases rd; cases re; exact op_fdiv pins s σ H _ _ v u Q I rx ry ⟨_, _, rfl, rfl, h.1, h.2.int hs⟩
  · cases rd; cases re; exact op_mod pins s σ H _ _ v u Q I rx ry ⟨_, _, rfl, rfl, h.1, h.2.int hs⟩
  · cases rd; cases re; exact op_pow pins s σ H _ _ v u Q I rx ry ⟨_, _, rfl, rfl, h.1, h.2.int hs⟩
  · cases rd; cases re; exact op_shl pins s σ H _ _ v u Q I rx ry ⟨_, _, rfl, rfl, h.1, h.2.int hs⟩
  · cases rd; cases re; exact op_shr pins s σ H _ _ v u Q I rx ry ⟨_, _, rfl, rfl, h.1, h.2.int hs⟩
  · cases rd; cases re
    obtain ⟨h0, h1, h⟩ := h
    subst h1
    refine op_and pins s σ H _ _ v u Q I rx ry ⟨_, _, rfl, rfl, ?_⟩
    show Q (.int (Builtin.bitAnd _ 1)) H
    rw [PyProof.Rows.bitAnd_m1]
    exact h.int hs
  · exact h.elim
end

/-! ## dicts whose keys are whole numbers and texts -/
def dK : Key → D
  | .inl i => .int i
  | .inr x => .str x
section
variable {K : Kc} {H : Hp} {s : PL.S}
theorem keyD_inv {k : D} {x : V} (h : keyD k = true) (r : RepD K H k x) : ∃ k', k = dK k' ∧ x = kV k' := by
  cases k <;> simp only [keyD] at h <;> try cases h
  · cases r; exact ⟨.inl _, rfl, rfl⟩
  · cases r; exact ⟨.inr _, rfl, rfl⟩
theorem RepD.key {d : D} {k : Key} (r : RepD K H d (kV k)) : d = dK k := by
  cases d with
  | tup ds => obtain ⟨_, _, q, _⟩ := RepD.tupI r; cases k <;> cases q
  | int i => cases k with
    | inl j => have q : V.int j = V.int i := r; cases q; rfl
    | inr x => have q : V.str x = V.int i := r; cases q
  | str y => cases k with
    | inl j => have q : V.int j = V.str y := r; cases q
    | inr x => have q : V.str x = V.str y := r; cases q; rfl
  | non => cases k with
    | inl j => have q : V.int j = V.non := r; cases q
    | inr x => have q : V.str x = V.non := r; cases q
  | bl b => cases k with
    | inl j => have q : V.int j = V.bl b := r; cases q
    | inr x => have q : V.str x = V.bl b := r; cases q
  | loc b => cases k with
    | inl j => have q : V.int j = V.ref (K.adr b) := r; cases q
    | inr x => have q : V.str x = V.ref (K.adr b) := r; cases q
theorem beq_dK (a b : Key) : D.beq (dK a) (dK b) = decide (a = b) := by
  cases a <;> cases b <;> simp only [dK, D.beq]
  · rename_i a b; rw [Bool.eq_iff_iff]; simp
  · simp
  · simp
  · rename_i a b; rw [Bool.eq_iff_iff]; simp
theorem RepKV.get : ∀ {kvs : List (D × D)} {ks : List (Key × V)} (k : Key), RepKV K H kvs ks → (∀ d, dget kvs (dK k) = some d → ∃ v, valV ks k = some v ∧ RepD K H d v) ∧ (dget kvs (dK k) = none → valV ks k = none)
  | [], ks, k, h => by
    cases h
    exact ⟨fun d e => (nomatch (show (none : Option D) = some d from e)), fun _ => rfl⟩
  | (x, y) :: r, ks, k, h => by
    simp only [RepKV] at h
    obtain ⟨k', v', r', rfl, q1, q2, t⟩ := h
    have e1 := q1.key
    subst e1
    obtain ⟨h1, h2⟩ := RepKV.get k t
    unfold dget at h1 h2 ⊢
    rw [List.find?_cons, beq_dK]
    by_cases e : k' = k
    · subst e
      rw [decide_eq_true rfl]
      refine ⟨fun d e => ?_, fun e => by cases e⟩
      cases e
      exact ⟨v', valV_pos rfl, q2⟩
    · rw [decide_eq_false e]
      rw [valV_neg (p := (k', v')) e]
      exact ⟨h1, h2⟩
theorem RepKV.some {kvs : List (D × D)} {ks : List (Key × V)} {k : Key} {d : D} (h : RepKV K H kvs ks) (e : dget kvs (dK k) = some d) : ∃ v, valV ks k = some v ∧ RepD K H d v := (h.get k).1 d e
theorem RepKV.isSome {kvs : List (D × D)} {ks : List (Key × V)} {k : Key} (h : RepKV K H kvs ks) : (valV ks k).isSome = (dget kvs (dK k)).isSome := by
  cases e : dget kvs (dK k) with
  | none => rw [(h.get k).2 e]; rfl
  | some d =>
    obtain ⟨v, e2, _⟩ := h.some e
    rw [e2]; rfl
theorem RepKV.any : ∀ {kvs : List (D × D)} {ks : List (Key × V)} (k : Key), RepKV K H kvs ks → (kvs.any fun kv => D.beq kv.1 (dK k)) = (ks.any fun kv => decide (kv.1 = k))
  | [], ks, k, h => by cases h; rfl
  | (x, y) :: r, ks, k, h => by
    simp only [RepKV] at h
    obtain ⟨k', v', r', rfl, q1, q2, t⟩ := h
    have e1 := q1.key
    subst e1
    rw [List.any_cons, List.any_cons, RepKV.any k t, beq_dK]
theorem RepKV.map {k : Key} {d : D} {v : V} (q : RepD K H d v) : ∀ {kvs : List (D × D)} {ks : List (Key × V)}, RepKV K H kvs ks →
    RepKV K H (kvs.map fun kv => if D.beq kv.1 (dK k) then (kv.1, d) else kv) (ks.map fun kv => if kv.1 = k then (kv.1, v) else kv)
  | [], ks, h => by cases h; simp [RepKV]
  | (x, y) :: r, ks, h => by
    simp only [RepKV] at h
    obtain ⟨k', v', r', rfl, q1, q2, t⟩ := h
    have e1 := q1.key
    subst e1
    have ih := RepKV.map (k := k) q t
    simp only [List.map_cons, beq_dK]
    by_cases e : k' = k
    · subst e
      simp only [decide_eq_true, if_true]
      simp only [RepKV]
      exact ⟨_, _, _, rfl, q1, q, ih⟩
    · simp only [decide_eq_false e, if_neg e]
      simp only [RepKV]
      exact ⟨_, _, _, rfl, q1, q2, ih⟩
theorem RepKV.snoc {k : Key} {d : D} {v : V} (q : RepD K H d v) (qk : RepD K H (dK k) (kV k)) : ∀ {kvs : List (D × D)} {ks : List (Key × V)}, RepKV K H kvs ks → RepKV K H (kvs ++ [(dK k, d)]) (ks ++ [(k, v)])
  | [], ks, h => by cases h; simp only [List.nil_append, RepKV]; exact ⟨_, _, _, rfl, qk, q, rfl⟩
  | (x, y) :: r, ks, h => by
    simp only [RepKV] at h
    obtain ⟨k', v', r', rfl, q1, q2, t⟩ := h
    simp only [List.cons_append, RepKV]
    exact ⟨_, _, _, rfl, q1, q2, RepKV.snoc q qk t⟩
theorem rep_dK (k : Key) : RepD K H (dK k) (kV k) := by cases k <;> rfl
theorem RepKV.put {kvs : List (D × D)} {ks : List (Key × V)} {k : Key} {d : D} {v : V} (h : RepKV K H kvs ks) (q : RepD K H d v) : RepKV K H (dput kvs (dK k) d) (putK ks k v) := by
  unfold dput putK
  rw [RepKV.any k h]
  split
  · exact RepKV.map q h
  · exact RepKV.snoc q (rep_dK k) h
theorem RepKV.length : ∀ {kvs : List (D × D)} {ks : List (Key × V)}, RepKV K H kvs ks → kvs.length = ks.length
  | [], ks, h => by cases h; rfl
  | (x, y) :: r, ks, h => by
    simp only [RepKV] at h
    obtain ⟨k', v', r', rfl, q1, q2, t⟩ := h
    simp [RepKV.length t]
theorem RepS.dic {l : Nat} {kvs : List (D × D)} (hs : RepS K H s) (e : s l = some (.dic kvs)) : ∃ n ks, l = n + 1 ∧ K.adr l = n ∧ H n = some (.dK ks) ∧ RepKV K H kvs ks := by
  obtain ⟨n, vs, e0, e1, r⟩ := hs l _ e
  exact ⟨n, vs, e0, by rw [e0]; rfl, e1, r⟩
end

/-! ## data -/
theorem mapM_cons_some {α β : Type} {f : α → Option β} {x : α} {xs : List α} {ys : List β} (h : (x :: xs).mapM f = some ys) : ∃ y r, f x = some y ∧ xs.mapM f = some r ∧ ys = y :: r := by
  rw [List.mapM_cons] at h
  cases e : f x with
  | none => rw [e] at h; cases h
  | some y =>
    cases e2 : xs.mapM f with
    | none => rw [e, e2] at h; cases h
    | some r => rw [e, e2] at h; cases h; exact ⟨y, r, rfl, rfl, rfl⟩
section
variable {K : Kc} {H : Hp} {s : PL.S}
theorem dpAll_of {n : Nat} (ih : ∀ d v a, dat s n d = some a → RepD K H d v → Dp K.K H v a ∧ a.plain = true ∧ a.depth ≤ n) : ∀ (ds : List D) (vs : List V) (as : List PyData), ds.mapM (dat s n) = some as → RepDs K H ds vs → DpAll K.K H vs as ∧ PyData.plainAll as = true ∧ PyData.depthAll as ≤ n
  | [], vs, as, h, r => by
    simp at h; subst h; cases r
    exact ⟨.nil, rfl, Nat.zero_le _⟩
  | d :: ds, vs, as, h, r => by
    obtain ⟨a, as', h1, h2, rfl⟩ := mapM_cons_some h
    simp only [RepDs] at r
    obtain ⟨v, vs', rfl, q, t⟩ := r
    obtain ⟨c1, c2, c3⟩ := ih d v a h1 q
    obtain ⟨d1, d2, d3⟩ := dpAll_of ih ds vs' as' h2 t
    exact ⟨.cons c1 d1, by simp only [PyData.plainAll, c2, d2, Bool.and_self], by simp only [PyData.depthAll]; omega⟩
theorem dp_of (hs : RepS K H s) : ∀ (n : Nat) (d : D) (v : V) (a : PyData), dat s n d = some a → RepD K H d v → Dp K.K H v a ∧ a.plain = true ∧ a.depth ≤ n
  | n, .non, v, a, h, r => by
    cases r; cases n <;> (simp only [dat] at h; cases h; exact ⟨.non, rfl, Nat.zero_le _⟩)
  | n, .bl b, v, a, h, r => by
    cases r; cases n <;> (simp only [dat] at h; cases h; exact ⟨.bl b, rfl, Nat.zero_le _⟩)
  | n, .int b, v, a, h, r => by
    cases r; cases n <;> (simp only [dat] at h; cases h; exact ⟨.int b, rfl, Nat.zero_le _⟩)
  | n, .str b, v, a, h, r => by
    cases r; cases n <;> (simp only [dat] at h; cases h; exact ⟨.str b, rfl, Nat.zero_le _⟩)
  | 0, .tup xs, v, a, h, r => by simp only [dat] at h; cases h
  | 0, .loc xs, v, a, h, r => by simp only [dat] at h; cases h
  | n + 1, .tup xs, v, a, h, r => by
    simp only [dat] at h
    cases e : xs.mapM (dat s n) with
    | none => rw [e] at h; cases h
    | some as =>
      rw [e] at h; cases h
      obtain ⟨p, vs, rfl, q, rr⟩ := r.tupI
      obtain ⟨d1, d2, d3⟩ := dpAll_of (dp_of hs n) xs vs as e rr
      exact ⟨.tup q d1, by simp only [PyData.plain, d2], by simp only [PyData.depth]; omega⟩
  | n + 1, .loc l, v, a, h, r => by
    simp only [dat] at h
    split at h
    · next xs q =>
      cases e : xs.mapM (dat s n) with
      | none => rw [e] at h; cases h
      | some as =>
        rw [e] at h; cases h
        cases r
        obtain ⟨vs, q1, rr⟩ := hs.seq q
        obtain ⟨d1, d2, d3⟩ := dpAll_of (dp_of hs n) xs vs as e rr
        exact ⟨.lst q1 d1, by simp only [PyData.plain, d2], by simp only [PyData.depth]; omega⟩
    · cases h
end
section
variable {X : Cx} {K : Kc} {H : Hp} {s : PL.S} {pins : List (Addr × Obj)} {σ : L2.St} {sh : Shared}
theorem reads_of (I : Inv X pins σ H sh) (hK : K.K = X.K) (hs : RepS K H s) {n : Nat} {d : D} {x : V} {v : Value} {a : PyData} (h : dat s n d = some a) (r : RepD K H d x) (rv : RelV x v) : (∃ as, Reads sh.heap v a as) ∧ a.plain = true ∧ a.depth ≤ n := by
  obtain ⟨h1, h2, h3⟩ := dp_of hs n d x a h r
  rw [hK] at h1
  exact ⟨Dp.reads I a x v h1 rv, h2, h3⟩
theorem readsAll_of (I : Inv X pins σ H sh) (hK : K.K = X.K) (hs : RepS K H s) {n : Nat} {ds : List D} {xs : List V} {vs : List Value} {as : List PyData} (h : ds.mapM (dat s n) = some as) (r : RepDs K H ds xs) (rv : Vals xs vs) : (∃ bs, ReadsAll sh.heap vs as bs) ∧ PyData.plainAll as = true ∧ PyData.depthAll as ≤ n := by
  obtain ⟨h1, h2, h3⟩ := dpAll_of (dp_of hs n) ds xs as h r
  rw [hK] at h1
  exact ⟨Dp.readsAll I as xs vs h1 rv, h2, h3⟩
end
def cmOf : Cm → CmpOp
  | .eq => .Eq | .ne => .NotEq | .lt => .Lt | .le => .LtE | .gt => .Gt | .ge => .GtE | .isin => .In | .notin => .NotIn
section
variable {X : Cx} {K : Kc}
theorem cm_ok (hK : K.K = X.K) (hu : X.A.units + 65 < cLine) : ∀ op : Cm, OpR X (compareOp (cmOf op)) (rV K (wpCm op)) := by
  intro op pins s σ H x y v u Q I rx ry ⟨d, e, t, rd, re, hs, h⟩
  have e60 : ∀ {l : D} {bs : List PyData}, (∃ ys, l = .tup ys ∧ ys.mapM (dat t 59) = some bs) → dat t 60 l = some (.tuple bs) := fun {l bs} ⟨ys, e1, e2⟩ => by subst e1; simp only [dat, e2]; rfl
  have e61 : ∀ {l : Nat} {ys : List D} {bs : List PyData}, seqAt t l = some ys → ys.mapM (dat t 59) = some bs → dat t 60 (.loc l) = some (.list bs) := fun {l ys bs} e1 e2 => by simp only [dat, e1, e2]; rfl
  unfold wpCm at h
  split at h
  · obtain ⟨a, b, h1, h2, h⟩ := h
    obtain ⟨⟨as, p1⟩, p2, p3⟩ := reads_of I hK hs h1 rd rx
    obtain ⟨⟨bs, q1⟩, q2, q3⟩ := reads_of I hK hs h2 re ry
    exact PySem.SeqAt.eq_plain p1 q1 p2 q2 (by omega) ⟨.bl _, H, I, rfl, h.bl hs⟩
  · obtain ⟨a, b, h1, h2, h⟩ := h
    obtain ⟨⟨as, p1⟩, p2, p3⟩ := reads_of I hK hs h1 rd rx
    obtain ⟨⟨bs, q1⟩, q2, q3⟩ := reads_of I hK hs h2 re ry
    exact PySem.SeqAt.ne_plain p1 q1 p2 q2 (by omega) ⟨.bl _, H, I, rfl, h.bl hs⟩
  · cases rd; cases re; exact op_lt pins s σ H _ _ v u Q I rx ry ⟨_, _, rfl, rfl, h.bl hs⟩
  · cases rd; cases re
    obtain ⟨as, p1⟩ := Dp.reads I (.str _) _ v (.str _) rx
    obtain ⟨bs, q1⟩ := Dp.reads I (.str _) _ u (.str _) ry
    exact PySem.W.lt_data p1 q1 (by simp only [PySem.W.alike]) (fun z => by cases z) (by simp only [PyData.depth]; omega) ⟨.bl _, H, I, rfl, h.bl hs⟩
  · obtain ⟨a, b, h1, h2, hal, h⟩ := h
    obtain ⟨⟨as, p1⟩, p2, p3⟩ := reads_of I hK hs h1 rd rx
    obtain ⟨⟨bs, q1⟩, q2, q3⟩ := reads_of I hK hs h2 re ry
    exact PySem.W.lt_data p1 q1 hal (fun z => by subst z; simp only [dat, Option.map_eq_some_iff] at h1; obtain ⟨_, _, z⟩ := h1; cases z) (by omega) ⟨.bl _, H, I, rfl, h.bl hs⟩
  · obtain ⟨a, b, h1, h2, hal, h⟩ := h
    obtain ⟨⟨as, p1⟩, p2, p3⟩ := reads_of I hK hs h1 rd rx
    obtain ⟨⟨bs, q1⟩, q2, q3⟩ := reads_of I hK hs h2 re ry
    exact PySem.W.gt_data p1 q1 hal (fun z => by subst z; simp only [dat, Option.map_eq_some_iff] at h1; obtain ⟨_, _, z⟩ := h1; cases z) (by omega) ⟨.bl _, H, I, rfl, h.bl hs⟩
  · obtain ⟨a, b, h1, h2, hal, h⟩ := h
    obtain ⟨⟨as, p1⟩, p2, p3⟩ := reads_of I hK hs h1 rd rx
    obtain ⟨⟨bs, q1⟩, q2, q3⟩ := reads_of I hK hs h2 re ry
    exact PySem.W.le_data p1 q1 hal (fun z => by subst z; simp only [dat, Option.map_eq_some_iff] at h1; obtain ⟨_, _, z⟩ := h1; cases z) (by omega) ⟨.bl _, H, I, rfl, h.bl hs⟩
  · cases rd; cases re; exact op_le pins s σ H _ _ v u Q I rx ry ⟨_, _, rfl, rfl, h.bl hs⟩
  · cases rd; cases re; exact op_gt pins s σ H _ _ v u Q I rx ry ⟨_, _, rfl, rfl, h.bl hs⟩
  · cases rd; cases re; exact op_ge pins s σ H _ _ v u Q I rx ry ⟨_, _, rfl, rfl, h.bl hs⟩
  · obtain ⟨a, b, h1, h2, h⟩ := h
    obtain ⟨⟨as, p1⟩, p2, p3⟩ := reads_of I hK hs h1 rd rx
    obtain ⟨⟨bs, q1⟩, q2, q3⟩ := reads_of I hK hs (e60 ⟨_, rfl, h2⟩) re ry
    simp only [PyData.plain, PyData.depth] at q2 q3
    exact PySem.SeqAt.in_tuple_data q1 p1 q2 p2 (by omega) ⟨.bl _, H, I, rfl, h.bl hs⟩
  · obtain ⟨a, b, h1, h2, h⟩ := h
    obtain ⟨⟨as, p1⟩, p2, p3⟩ := reads_of I hK hs h1 rd rx
    obtain ⟨⟨bs, q1⟩, q2, q3⟩ := reads_of I hK hs (e60 ⟨_, rfl, h2⟩) re ry
    simp only [PyData.plain, PyData.depth] at q2 q3
    exact PySem.SeqAt.notIn_tuple_data q1 p1 q2 p2 (by omega) ⟨.bl _, H, I, rfl, h.bl hs⟩
  · rcases h with ⟨ys, a, bs, h0, h1, h2, h⟩ | ⟨kvs, h0, hk, h⟩
    · obtain ⟨⟨as, p1⟩, p2, p3⟩ := reads_of I hK hs h1 rd rx
      obtain ⟨⟨bs, q1⟩, q2, q3⟩ := reads_of I hK hs (e61 h0 h2) re ry
      simp only [PyData.plain, PyData.depth] at q2 q3
      exact PySem.SeqAt.in_list_data q1 p1 q2 p2 (by omega) ⟨.bl _, H, I, rfl, h.bl hs⟩
    · obtain ⟨n, ks, _, n1, q1, r1⟩ := hs.dic h0
      cases re
      rw [n1] at ry
      cases ry
      obtain ⟨k, rfl, rfl⟩ := keyD_inv hk rd
      refine d_in (by omega) I (DGet.k (k := k) q1) rx fun s' I' => ⟨.bl _, H, I', rfl, ?_⟩
      rw [r1.isSome]
      exact h.bl hs
  · rcases h with ⟨ys, a, bs, h0, h1, h2, h⟩ | ⟨kvs, h0, hk, h⟩
    · obtain ⟨⟨as, p1⟩, p2, p3⟩ := reads_of I hK hs h1 rd rx
      obtain ⟨⟨bs, q1⟩, q2, q3⟩ := reads_of I hK hs (e61 h0 h2) re ry
      simp only [PyData.plain, PyData.depth] at q2 q3
      exact PySem.SeqAt.notIn_list_data q1 p1 q2 p2 (by omega) ⟨.bl _, H, I, rfl, h.bl hs⟩
    · obtain ⟨n, ks, _, n1, q1, r1⟩ := hs.dic h0
      cases re
      rw [n1] at ry
      cases ry
      obtain ⟨k, rfl, rfl⟩ := keyD_inv hk rd
      refine d_notIn (by omega) I (DGet.k (k := k) q1) rx fun s' I' => ⟨.bl _, H, I', rfl, ?_⟩
      rw [r1.isSome]
      exact h.bl hs
  · exact h.elim
end
end PL
end

section
set_option Elab.async false
set_option linter.all false
set_option maxRecDepth 100000
namespace PL
open PySem PySem.Spec PyProof.Rows L2

section
variable {K : Kc} {H : Hp} {s : PL.S}
theorem items_of (hs : RepS K H s) {d : D} {xs : List D} {x : V} (e : itemsOf s d = some xs) (r : RepD K H d x) : ∃ p vs, x = .ref p ∧ (SqL K.K H p vs ∨ SqT K.K H p vs) ∧ RepDs K H xs vs := by
  unfold itemsOf at e
  split at e
  · cases e
    obtain ⟨a, vs, rfl, q, rr⟩ := r.tupI
    exact ⟨a, vs, rfl, .inr q, rr⟩
  · next a =>
    cases r
    obtain ⟨vs, q, rr⟩ := hs.seq e
    exact ⟨_, vs, rfl, .inl q, rr⟩
  · cases e
theorem RepDs.one_inv {d : D} {vs : List V} (r : RepDs K H [d] vs) : ∃ v, vs = [v] ∧ RepD K H d v := by
  simp only [RepDs] at r
  obtain ⟨v, t, rfl, q, rfl⟩ := r
  exact ⟨v, rfl, q⟩
theorem RepDs.two_inv {d e : D} {vs : List V} (r : RepDs K H [d, e] vs) : ∃ v w, vs = [v, w] ∧ RepD K H d v ∧ RepD K H e w := by
  simp only [RepDs] at r
  obtain ⟨v, t, rfl, q, w, t', rfl, q', rfl⟩ := r
  exact ⟨v, w, rfl, q, q'⟩
end
section
variable {X : Cx} {K : Kc} {H : Hp} {s : PL.S} {pins : List (Addr × Obj)} {σ : L2.St} {sh : Shared}
/-- what is walked by a builtin: a list or a tuple of the heap -/
theorem seq_of (I : Inv X pins σ H sh) (hK : K.K = X.K) {p : Addr} {vs : List V} (h : SqL K.K H p vs ∨ SqT K.K H p vs) : ∃ its, Vals vs its ∧ (sh.heap.IsList p its.toArray ∨ IsTup sh.heap p its.toArray) ∧ vs.length ≤ sizeLine := by
  rw [hK] at h
  rcases h with h | h
  · obtain ⟨its, r, pl, z⟩ := I.list h
    exact ⟨its, r, .inl pl.isList, z⟩
  · obtain ⟨its, r, pl, z⟩ := I.tuple h
    exact ⟨its, r, .inr pl, z⟩
end
/-- a builtin by values -/
def rC (K : Kc) (w : List D → PL.S → Post → Prop) : List V → Hp → VK → Prop := fun vs H Q => ∃ ds s, RepDs K H ds vs ∧ RepS K H s ∧ w ds s (PQ K H Q)
section
variable {X : Cx} {K : Kc}
theorem bi_len (hK : K.K = X.K) : CallR X (.builtin "len") (rC K wpLen) := by
  intro pins s σ H xs us Q I r ⟨ds, t, rd, hs, h⟩
  unfold wpLen at h
  split at h
  · next x =>
    obtain ⟨v, rfl, q⟩ := rd.one_inv
    cases q
    obtain ⟨h1, h2⟩ := h
    exact call_len_str pins s σ H _ us Q I r ⟨x, rfl, by rw [lim_eq]; exact h1, h2.int hs⟩
  · next xs =>
    obtain ⟨v, rfl, q⟩ := rd.one_inv
    obtain ⟨a, vs, rfl, q1, r1⟩ := q.tupI
    exact call_len_seq pins s σ H _ us Q I r ⟨a, vs, rfl, .inr (by rw [← hK]; exact q1), by rw [← r1.length]; exact h.int hs⟩
  · next a =>
    obtain ⟨v, rfl, q⟩ := rd.one_inv
    cases q
    split at h
    · next xs e =>
      obtain ⟨vs, q1, r1⟩ := hs.seq (xs := xs) (by unfold seqAt; rw [e])
      exact call_len_seq pins s σ H _ us Q I r ⟨_, vs, rfl, .inl (by rw [← hK]; exact q1), by rw [← r1.length]; exact h.int hs⟩
    · next xs e =>
      obtain ⟨vs, q1, r1⟩ := hs.seq (xs := xs) (by unfold seqAt; rw [e])
      exact call_len_seq pins s σ H _ us Q I r ⟨_, vs, rfl, .inl (by rw [← hK]; exact q1), by rw [← r1.length]; exact h.int hs⟩
    · next kvs e =>
      obtain ⟨n, ks, _, n1, q1, r1⟩ := hs.dic e
      rw [n1] at r
      exact call_lenD pins s σ H _ us Q I r ⟨n, ks, rfl, q1, by rw [← r1.length]; exact h.int hs⟩
    · exact h.elim
  · exact h.elim
theorem bi_abs : CallR X (.builtin "abs") (rC K wpAbs) := by
  intro pins s σ H xs us Q I r ⟨ds, t, rd, hs, h⟩
  unfold wpAbs at h
  split at h
  · obtain ⟨v, rfl, q⟩ := rd.one_inv
    cases q
    exact call_abs pins s σ H _ us Q I r ⟨_, rfl, h.int hs⟩
  · exact h.elim
theorem bi_int : CallR X (.type "int") (rC K wpInt) := by
  intro pins s σ H xs us Q I r ⟨ds, t, rd, hs, h⟩
  unfold wpInt at h
  split at h
  · obtain ⟨v, rfl, q⟩ := rd.one_inv
    cases q
    exact call_int1 pins s σ H _ us Q I r (.inl ⟨_, rfl, h.int hs⟩)
  · obtain ⟨v, rfl, q⟩ := rd.one_inv
    cases q
    exact call_int1 pins s σ H _ us Q I r (.inr ⟨_, rfl, h.int hs⟩)
  · exact h.elim
theorem bi_list (hK : K.K = X.K) : CallR X (.type "list") (rC K wpList) := by
  intro pins s σ H xs us Q I r ⟨ds, t, rd, hs, h⟩
  unfold wpList at h
  split at h
  · obtain ⟨v, rfl, q⟩ := rd.one_inv
    obtain ⟨xs, e, h⟩ := h
    obtain ⟨p, vs, rfl, q1, r1⟩ := items_of hs e q
    exact call_list_of pins s σ H _ us Q I r ⟨p, vs, rfl, by rw [← hK]; exact q1, fun l hl => PQ.newL h hs r1 hl⟩
  · exact h.elim
theorem bi_tuple (hK : K.K = X.K) : CallR X (.type "tuple") (rC K wpTuple) := by
  intro pins s σ H xs us Q I r ⟨ds, t, rd, hs, h⟩
  unfold wpTuple at h
  split at h
  · obtain ⟨v, rfl, q⟩ := rd.one_inv
    obtain ⟨xs, e, h⟩ := h
    obtain ⟨p, vs, rfl, q1, r1⟩ := items_of hs e q
    refine call_tuple_of pins s σ H _ us Q I r ⟨p, vs, rfl, ?_⟩
    rw [← hK]
    rcases q1 with q1 | q1
    · exact .inl ⟨q1, fun l hl => PQ.newT h hs r1 hl⟩
    · exact .inr ⟨q1, h.here (RepD.tupM q1 r1) hs⟩
  · exact h.elim
theorem bi_sum (hK : K.K = X.K) (hc : X.calm = true) : CallR X (.builtin "sum") (rC K wpSum) := by
  intro pins s σ H xs us Q I r ⟨ds, t, rd, hs, h⟩
  unfold wpSum at h
  split at h
  · obtain ⟨v, rfl, q⟩ := rd.one_inv
    obtain ⟨xs, ns, e, rfl, h⟩ := h
    obtain ⟨p, vs, rfl, q1, r1⟩ := items_of hs e q
    have e1 := r1.ints
    subst e1
    rw [hK] at q1
    rcases q1 with q1 | q1
    · exact cr_sum hc pins s σ H _ us Q I r ⟨p, ns, rfl, q1, h.int hs⟩
    · rw [Vals.ref1 r]
      obtain ⟨its, rv, pl, _⟩ := I.tuple q1
      obtain ⟨zs, ez⟩ := rv.ints.allInts.items
      have hn : numsOf (intItems zs).toList = ns := by rw [← ez]; exact rv.ints.numsOf
      rw [nums_intItems] at hn
      rw [ez] at pl
      refine PySem.W.ktm_sumG (I.ok.hd hc) pl fun h' tk t' hk => ?_
      refine ⟨.int ns.sum, H, I.kept hk, ⟨t', ?_⟩, h.int hs⟩
      rw [preSum_eq, List.take_of_length_le (by simp), hn]
  · exact h.elim
theorem bools_plain : ∀ bs : List Bool, PyData.plainAll (bs.map PyData.bool) = true
  | [] => rfl
  | b :: r => by simp only [List.map_cons, PyData.plainAll, PyData.plain, bools_plain r, Bool.and_self]
theorem bools_mapM (s : PL.S) (n : Nat) : ∀ bs : List Bool, (bs.map D.bl).mapM (dat s n) = some (bs.map PyData.bool)
  | [] => rfl
  | b :: r => by
    rw [List.map_cons, List.mapM_cons, bools_mapM s n r]
    cases n <;> rfl
theorem bi_all (hK : K.K = X.K) (hc : X.calm = true) : CallR X (.builtin "all") (rC K wpAllB) := by
  intro pins s σ H xs us Q I r ⟨ds, t, rd, hs, h⟩
  unfold wpAllB at h
  split at h
  · obtain ⟨v, rfl, q⟩ := rd.one_inv
    obtain ⟨xs, bs, e, rfl, h⟩ := h
    obtain ⟨p, vs, rfl, q1, r1⟩ := items_of hs e q
    obtain ⟨its, rv, q2, _⟩ := seq_of I hK q1
    obtain ⟨⟨as, ra⟩, _, _⟩ := readsAll_of I hK hs (bools_mapM _ 50 bs) r1 rv
    rw [Vals.ref1 r]
    have fin : ∀ h' tk, (∀ b o, s.heap.get? b = some o → h'.get? b = some o) → EP X pins σ Q (.bool ((bs.map PyData.bool).all PyData.truthy)) { s with heap := h', toks := tk } := fun h' tk hk => by
      have e1 : (bs.map PyData.bool).all PyData.truthy = bs.all id := by rw [List.all_map]; rfl
      rw [e1]
      exact ⟨.bl _, H, I.kept hk, rfl, h.bl hs⟩
    have hf : ∀ x ∈ bs.map PyData.bool, x.fits63 := fun x hx => by obtain ⟨b, _, rfl⟩ := List.mem_map.mp hx; exact trivial
    rcases q2 with q2 | q2
    · exact PySem.W.all_list_data (I.ok.hd hc) q2 (by simpa using ra) (bools_plain bs) hf fin
    · exact PySem.W.all_tuple_data (I.ok.hd hc) q2 (by simpa using ra) (bools_plain bs) hf fin
  · exact h.elim
theorem bi_any (hK : K.K = X.K) (hc : X.calm = true) : CallR X (.builtin "any") (rC K wpAnyB) := by
  intro pins s σ H xs us Q I r ⟨ds, t, rd, hs, h⟩
  unfold wpAnyB at h
  split at h
  · obtain ⟨v, rfl, q⟩ := rd.one_inv
    obtain ⟨xs, bs, e, rfl, h⟩ := h
    obtain ⟨p, vs, rfl, q1, r1⟩ := items_of hs e q
    obtain ⟨its, rv, q2, _⟩ := seq_of I hK q1
    obtain ⟨⟨as, ra⟩, _, _⟩ := readsAll_of I hK hs (bools_mapM _ 50 bs) r1 rv
    rw [Vals.ref1 r]
    have fin : ∀ h' tk, (∀ b o, s.heap.get? b = some o → h'.get? b = some o) → EP X pins σ Q (.bool ((bs.map PyData.bool).any PyData.truthy)) { s with heap := h', toks := tk } := fun h' tk hk => by
      have e1 : (bs.map PyData.bool).any PyData.truthy = bs.any id := by rw [List.any_map]; rfl
      rw [e1]
      exact ⟨.bl _, H, I.kept hk, rfl, h.bl hs⟩
    have hf : ∀ x ∈ bs.map PyData.bool, x.fits63 := fun x hx => by obtain ⟨b, _, rfl⟩ := List.mem_map.mp hx; exact trivial
    rcases q2 with q2 | q2
    · exact PySem.W.any_list_data (I.ok.hd hc) q2 (by simpa using ra) (bools_plain bs) hf fin
    · exact PySem.W.any_tuple_data (I.ok.hd hc) q2 (by simpa using ra) (bools_plain bs) hf fin
  · exact h.elim
end
end PL
end

section
set_option Elab.async false
set_option linter.all false
set_option maxRecDepth 100000
namespace PL
open PySem PySem.Spec PyProof.Rows L2 PySem.W PySem.Calls

section
variable {prog : Program} {w : World} {A : Around} {E : Value → Shared → Prop} {s : Shared}
/-- what a tuple gives to list.extend's copy -/
theorem collect_tup {l : Addr} {vs : List Value} {Q : List Value → Shared → Prop} (hl : s.heap.IsTuple l vs.toArray) (hsz : vs.length ≤ sizeLine)
    (h : Q vs { s with heap := (s.heap.push (seqObj "list" #[] 0)).update s.heap.objs.size (Obj.mapSeq (· ++ vs.toArray)) }) : wpAny (model prog w) A (collect (.ref l)) Q E s := by
  obtain ⟨o, e1, e2, n, e3⟩ := id hl
  unfold collect
  refine wpAny_bind (wpAny_runValue (codeAny_builtin entry_proto_collect' ?_))
  show wpAny _ _ (do again (.builtin "list.__iadd__" ⟨[← newList [], .ref l], []⟩)) _ _ s
  refine wpAny_bind (wpAny_newList (wpAny_pure ⟨Code.quiet_builtin _ (by decide +kernel), codeAny_builtin entry_list_iadd' ?_⟩))
  have e1' : (s.heap.push (seqObj "list" #[] 0)).get? l = some o := Heap.get?_push_of_some _ e1
  show wpAny _ _ (Builtin.List.listExtendWith (.ref s.heap.objs.size) (.ref l) (.ref s.heap.objs.size)) _ _ { s with heap := s.heap.push (seqObj "list" #[] 0) }
  unfold Builtin.List.listExtendWith
  refine wpAny_bind (wpAny_typeOf (T := "tuple") ⟨o, e1', e2⟩ ?_)
  have ht : (Value.type "tuple" == Value.type "tuple") = true := beq_self_eq_true _
  rw [if_pos (by rw [ht, Bool.or_true])]
  refine wpAny_bind (listItems_at e1' e3 (wpAny_bind (listItems_at (xs := #[]) (n := 0) (Heap.get?_push_size _ rfl) rfl ?_)))
  rw [if_neg (by simp)]
  refine wpAny_bind (listUpdate_at (xs := #[]) (n := 0) (Heap.get?_push_size _ rfl) rfl (wpAny_pure ?_) (Nat.zero_le _) (by show (#[] ++ vs.toArray).size ≤ sizeLine + 1; simp only [Array.size_append, List.size_toArray, List.length_nil]; omega))
  show wpAny (model prog w) A (do
      let o ← load s.heap.objs.size
      match o.data with
      | .seq xs _ => pure xs.toList
      | _ => unsupported "internal:collect") Q E { s with heap := (s.heap.push (seqObj "list" #[] 0)).update s.heap.objs.size (Obj.mapSeq (· ++ vs.toArray)) }
  refine wpAny_bind (wpAny_load (get?_update_seq (Heap.get?_push_size _ rfl) _) ?_)
  show wpAny _ _ (pure ((#[] : Array Value) ++ vs.toArray).toList) Q E _
  have e4 : ((#[] : Array Value) ++ vs.toArray).toList = vs := by simp
  rw [e4]
  exact wpAny_pure h
/-- sorted(t), sorted(l): by the sort of the copy -/
theorem sorted_by {l : Addr} {vs : List Value} {kw : List (Str × Value)} {Q : Value → Shared → Prop} (hl : s.heap.IsList l vs.toArray ∨ s.heap.IsTuple l vs.toArray) (hL : vs.length ≤ sizeLine) (ha1 : argsOk "sorted" ⟨[.ref l], kw⟩) (ha2 : ∀ x, argsOk "list.sort" ⟨[.ref x], kw⟩)
    (body : ∀ E' : Value → Shared → Prop, wpAny (model prog w) A.in1.in1 (Builtin.«list.sort» ⟨[.ref (s.heap.objs.size + 1)], kw⟩) (fun f s' => f = .done (.ret .none) ∧ Q (.ref (s.heap.objs.size + 1)) s') E' { s with heap := copyHeap s.heap vs }) :
    wpAny (model prog w) A (call (.builtin "sorted") [.ref l] kw) Q E s := by
  rcases hl with hl | hl
  · exact sorted_of_sort hl hL ha1 ha2 body
  · refine call_function_entry_kw kind_sorted plain_sorted entry_sorted ha1 ?_
    unfold Builtin.«sorted»
    refine wpAny_bind (m := checkCount "sorted" 1 1 _) (wpAny_pure (wpAny_bind (collect_tup hl hL (wpAny_bind (wpAny_newList ?_ hL)))))
    have hsz : ((s.heap.push (seqObj "list" #[] 0)).update s.heap.objs.size (Obj.mapSeq (· ++ vs.toArray))).objs.size = s.heap.objs.size + 1 := by rw [Heap.size_update, size_push']
    show wpAny _ _ _ _ _ { s with heap := copyHeap s.heap vs }
    rw [hsz]
    refine wpAny_bind (wpAny_holding (wpAny_call_entry_kw slot_list_sort ⟨_, copyHeap_at s.heap vs, rfl⟩ entry_list_sort ?body (ha2 _)))
    case body =>
      refine wpAny_mono (body _) (fun f s' hf => ?_) fun _ _ e => e
      obtain ⟨rfl, hq⟩ := hf
      exact ⟨_, rfl, wpAny_pure ⟨_, rfl, hq⟩⟩
section
variable {β : Type} {vs : List Value} {bs : List β} {enc : β → PyData} {R : Value → β → Prop}
theorem sorted_dataT {l : Addr} {Q : Value → Shared → Prop} (hl : s.heap.IsList l vs.toArray ∨ s.heap.IsTuple l vs.toArray) (e : EachIs R vs bs) (er : EachIs (fun v b => ∃ as, Reads s.heap v (enc b) as) vs bs) (hal : AllAlike (bs.map enc)) (hk : Sortable (bs.map enc)) (hL : bs.length ≤ sizeLine)
    (hu : ∀ b, b ∈ bs → A.units + 2 + (enc b).depth < cLine) (h : ∀ out, out.length = bs.length → EachIs R out (bs.mergeSort (dataLe false enc)) → Q (.ref (s.heap.objs.size + 1)) { s with heap := sortedAll s.heap vs (List.toArray out) }) :
    wpAny (model prog w) A (call (.builtin "sorted") [.ref l]) Q E s := by
  have er' : EachIs (fun v b => ∃ as, Reads (sortingHeap (copyHeap s.heap vs) (s.heap.objs.size + 1) vs) v (enc b) as) vs bs := er.mono fun _ _ ⟨as, r⟩ => ⟨as, PyProof.Rows.Reads.keeps (fun _ _ => sorting_copy_old) r⟩
  have S := SortsAt.data (prog := prog) (w := w) (A := A.in1.in1) (s := { s with heap := sortingHeap (copyHeap s.heap vs) (s.heap.objs.size + 1) vs }) (each_map (R := fun v d => ∃ as, Reads (sortingHeap (copyHeap s.heap vs) (s.heap.objs.size + 1) vs) v d as) enc er') hal hk (bound_map hu)
  exact sorted_by hl (by rw [e.length]; exact hL) (args_sorted1 _) (fun _ => args_list_sort _) fun _ => list_sort_vals (s := { s with heap := copyHeap s.heap vs }) (copyHeap_at s.heap vs) S (by rw [e.length]; exact hL)
    ⟨rfl, h _ (by rw [sortVals_length false rfl]; exact e.length) (sortVals_data false e er' hal)⟩
theorem sorted_rev_dataT {l : Addr} {b : Bool} {Q : Value → Shared → Prop} (hl : s.heap.IsList l vs.toArray ∨ s.heap.IsTuple l vs.toArray) (e : EachIs R vs bs) (er : EachIs (fun v b => ∃ as, Reads s.heap v (enc b) as) vs bs) (hal : AllAlike (bs.map enc)) (hk : Sortable (bs.map enc)) (hL : bs.length ≤ sizeLine)
    (hu : ∀ b, b ∈ bs → A.units + 2 + (enc b).depth < cLine) (h : ∀ out, out.length = bs.length → EachIs R out (bs.mergeSort (dataLe b enc)) → Q (.ref (s.heap.objs.size + 1)) { s with heap := sortedAll s.heap vs (List.toArray out) }) :
    wpAny (model prog w) A (call (.builtin "sorted") [.ref l] [(Str.ofString "reverse", .bool b)]) Q E s := by
  have er' : EachIs (fun v b => ∃ as, Reads (sortingHeap (copyHeap s.heap vs) (s.heap.objs.size + 1) vs) v (enc b) as) vs bs := er.mono fun _ _ ⟨as, r⟩ => ⟨as, PyProof.Rows.Reads.keeps (fun _ _ => sorting_copy_old) r⟩
  have S := SortsAt.data (prog := prog) (w := w) (A := A.in1.in1) (s := { s with heap := sortingHeap (copyHeap s.heap vs) (s.heap.objs.size + 1) vs }) (each_map (R := fun v d => ∃ as, Reads (sortingHeap (copyHeap s.heap vs) (s.heap.objs.size + 1) vs) v d as) enc er') hal hk (bound_map hu)
  exact sorted_by hl (by rw [e.length]; exact hL) (args_sorted_rev _ _) (fun _ => args_list_sort_rev _ _) fun _ => list_sort_rev_vals (s := { s with heap := copyHeap s.heap vs }) (copyHeap_at s.heap vs) S (by rw [e.length]; exact hL)
    ⟨rfl, h _ (by rw [sortVals_length b rfl]; exact e.length) (sortVals_data b e er' hal)⟩
end
end

/-- item by item: a datum of ours and its value -/
theorem EachIs.split {K : Kc} {H : Hp} : ∀ {us : List Value} {ds : List D}, EachIs (fun u d => ∃ x, RelV x u ∧ RepD K H d x) us ds → ∃ xs, Vals xs us ∧ RepDs K H ds xs
  | _, _, .nil => ⟨[], .nil, RepDs.nil⟩
  | _, _, .cons ⟨x, r, q⟩ t => by
    obtain ⟨xs, h1, h2⟩ := EachIs.split t
    exact ⟨x :: xs, .cons r h1, RepDs.cons q h2⟩
theorem EachIs.join {K : Kc} {H : Hp} : ∀ {ds : List D} {xs : List V} {us : List Value}, Vals xs us → RepDs K H ds xs → EachIs (fun u d => ∃ x, RelV x u ∧ RepD K H d x) us ds
  | [], xs, us, r, q => by cases q; cases r; exact .nil
  | d :: ds, xs, us, r, q => by
    simp only [RepDs] at q
    obtain ⟨v, t, rfl, q1, q2⟩ := q
    cases r with
    | cons r1 r2 => exact .cons ⟨v, r1, q1⟩ (EachIs.join r2 q2)
theorem EachIs.imp2 {α β : Type} {R : α → β → Prop} {R' : α → β → Prop} : ∀ {xs : List α} {ys : List β}, EachIs R xs ys → (∀ a b, b ∈ ys → R a b → R' a b) → EachIs R' xs ys
  | _, _, .nil, _ => .nil
  | _, _, .cons r t, h => .cons (h _ _ (by simp) r) (EachIs.imp2 t fun a b hb => h a b (by simp [hb]))
theorem mapM_mem {α β : Type} {f : α → Option β} : ∀ {xs : List α} {ys : List β}, xs.mapM f = some ys → ∀ x ∈ xs, ∃ y, f x = some y
  | [], _, _, x, hx => by cases hx
  | a :: xs, ys, h, x, hx => by
    obtain ⟨y, r, h1, h2, rfl⟩ := mapM_cons_some h
    rcases List.mem_cons.mp hx with rfl | hx
    · exact ⟨y, h1⟩
    · exact mapM_mem h2 x hx
theorem mapM_map {s : PL.S} : ∀ {xs : List D} {ys : List PyData}, xs.mapM (dat s 50) = some ys → xs.map (datD s) = ys
  | [], ys, h => by simp at h; subst h; rfl
  | a :: xs, ys, h => by
    obtain ⟨y, r, h1, h2, rfl⟩ := mapM_cons_some h
    rw [List.map_cons, mapM_map h2]
    unfold datD
    rw [h1]; rfl
section
variable {X : Cx} {K : Kc}
theorem sort_core {rev : Bool} (hK : K.K = X.K) (hu : X.A.units + 65 < cLine) {pins : List (Addr × Obj)} {s : Shared} {σ : L2.St} {H : Hp} {Q : VK} {t : PL.S} {xs : List D} {ds : List PyData} {p : Addr} {vs : List V} (I : Inv X pins σ H s) (hs : RepS K H t)
    (q1 : SqL K.K H p vs ∨ SqT K.K H p vs) (r1 : RepDs K H xs vs) (hd : Sorts t xs ds) (h : newO (.lst (sortS t rev xs)) t (PQ K H Q)) :
    ∃ its, (s.heap.IsList p its.toArray ∨ s.heap.IsTuple p its.toArray) ∧ EachIs (fun u d => ∃ x, RelV x u ∧ RepD K H d x) its xs ∧ EachIs (fun v b => ∃ as, Reads s.heap v (datD t b) as) its xs ∧ AllAlike (xs.map (datD t)) ∧ Sortable (xs.map (datD t)) ∧ xs.length ≤ sizeLine ∧
      (∀ b, b ∈ xs → X.A.units + 2 + (datD t b).depth < cLine) ∧
      ∀ out, out.length = xs.length → EachIs (fun u d => ∃ x, RelV x u ∧ RepD K H d x) out (xs.mergeSort (dataLe rev (datD t))) → EP X pins σ Q (.ref (s.heap.objs.size + 1)) { s with heap := sortedAll s.heap its (List.toArray out) } := by
  obtain ⟨its, rv, q2, hz⟩ := seq_of I hK q1
  obtain ⟨hm, hal, hso⟩ := hd
  have e1 := mapM_map hm
  have ej := EachIs.join rv r1
  refine ⟨its, q2, ej, ?_, by rw [e1]; exact hal, by rw [e1]; exact hso, by rw [r1.length]; exact hz, fun b hb => ?_, fun out hl ho => ?_⟩
  · refine EachIs.imp2 ej fun u d hd ⟨x, ru, qd⟩ => ?_
    obtain ⟨a, ha⟩ := mapM_mem hm d hd
    have e2 : datD t d = a := by unfold datD; rw [ha]; rfl
    rw [e2]
    exact (reads_of I hK hs ha qd ru).1
  · obtain ⟨a, ha⟩ := mapM_mem hm b hb
    have e2 : datD t b = a := by unfold datD; rw [ha]; rfl
    obtain ⟨v, hv⟩ := List.mem_iff_getElem?.mp hb
    obtain ⟨x, hx, qx⟩ := r1.get hv
    obtain ⟨u, hu', ru⟩ := rv.get hx
    have := (reads_of I hK hs ha qx ru).2.2
    rw [e2]; omega
  · obtain ⟨ys, ry, qy⟩ := EachIs.split ho
    have hzl : ys.length ≤ sizeLine := by rw [ry.length, hl, r1.length]; exact hz
    have hf : H (s.heap.objs.size + 1) = none := I.hok.fresh (Nat.le_succ _)
    refine ⟨.ref (s.heap.objs.size + 1), upd H (s.heap.objs.size + 1) (.lst ys), I.laid (t' := s.toks) (fun b o e => sortedAll_old e) (Nat.le_succ _) ?_, rfl, PQ.newL h hs qy hf⟩
    obtain ⟨n, hn⟩ := sortedAll_at s.heap its out.toArray
    exact ⟨hzl, out, n, ry, hn⟩
theorem bi_sorted (hK : K.K = X.K) (hu : X.A.units + 65 < cLine) : CallR X (.builtin "sorted") (rC K (wpSorted false)) := by
  intro pins s σ H xs us Q I r ⟨ds, t, rd, hs, h⟩
  unfold wpSorted at h
  split at h
  · obtain ⟨v, rfl, q⟩ := rd.one_inv
    obtain ⟨xs, zs, e, hd, h⟩ := h
    obtain ⟨p, vs, rfl, q1, r1⟩ := items_of hs e q
    rw [Vals.ref1 r]
    obtain ⟨its, a1, a2, a3, a4, a5, a6, a7, a8⟩ := sort_core hK hu I hs q1 r1 hd h
    exact sorted_dataT a1 a2 a3 a4 a5 a6 a7 a8
  · exact h.elim
end
end PL
end

section
set_option Elab.async false
set_option linter.all false
set_option maxRecDepth 100000
namespace PL
open PySem PySem.Spec PyProof.Rows L2

section
variable {X : Cx} {K : Kc}
theorem cutIx_eq (n d : Nat) (o : Option Int) : cutIx n d o = HT.sIx n d o := by
  cases o with
  | none => rfl
  | some v => rfl
theorem ix_ok (hK : K.K = X.K) (hu : X.A.units + 65 < cLine) : IxR X (rV K wpIx) := by
  intro value slice pins s σ H x y v u Q I rx ry ⟨d, e, t, rd, re, hs, h⟩ hsl
  unfold wpIx at h
  split at h
  · next _ _ xs i =>
    obtain ⟨a, vs, rfl, qa, ra⟩ := rd.tupI
    cases re
    obtain ⟨d, e, h⟩ := h
    unfold atD at e
    obtain ⟨j, e1, e2⟩ := Option.bind_eq_some_iff.mp e
    obtain ⟨w, e3, rw'⟩ := ra.get e2
    refine ix_tup value slice pins s σ H _ _ v u Q I rx ry ⟨a, vs, i, w, rfl, rfl, by rw [← hK]; exact qa, ?_, h.here rw' hs⟩ hsl
    unfold atI
    rw [← ra.length]
    show (ixOf xs.length i).bind _ = _
    rw [e1]; exact e3
  · next _ _ x i =>
    cases rd; cases re
    obtain ⟨hl, j, c, e1, e2, h⟩ := h
    refine ix_str value slice pins s σ H _ _ v u Q I rx ry ⟨x, i, c, rfl, rfl, by rw [lim_eq]; exact hl, ?_, h.str hs⟩ hsl
    unfold atI
    show (ixOf x.cps.toList.length i).bind _ = _
    rw [e1]; exact e2
  · next _ _ a k =>
    cases rd
    rcases h with ⟨xs, i, d, rfl, e0, e, h⟩ | ⟨kvs, d, e0, hk, e, h⟩
    · cases re
      obtain ⟨vs, q1, r1⟩ := hs.seq e0
      unfold atD at e
      obtain ⟨j, e1, e2⟩ := Option.bind_eq_some_iff.mp e
      obtain ⟨w, e3, rw'⟩ := r1.get e2
      refine ix_list value slice pins s σ H _ _ v u Q I rx ry ⟨_, vs, i, w, rfl, rfl, by rw [← hK]; exact q1, ?_, h.here rw' hs⟩ hsl
      unfold atI
      rw [← r1.length]
      show (ixOf xs.length i).bind _ = _
      rw [e1]; exact e3
    · obtain ⟨n, ks, _, n1, q1, r1⟩ := hs.dic e0
      rw [n1] at rx
      cases rx
      obtain ⟨k', rfl, rfl⟩ := keyD_inv hk re
      obtain ⟨w, e3, rw'⟩ := r1.some e
      have g : DGet H n (kV k') (some w) := by rw [← e3]; exact DGet.k q1
      exact tail_any (dict_typeIs I g) PySem.F.slot_dict_getitem.lookup (d_getItem (by omega) I g ry fun w' s' I' rw2 => ⟨w, H, I', rw2, h.here rw' hs⟩) hsl
  · exact h.elim
theorem get_ok (hK : K.K = X.K) (hu : X.A.units + 65 < cLine) : PGet X (rV K wpGet) := by
  intro pins s σ H x y v u Q I rx ry ⟨d, e, t, rd, re, hs, h⟩
  unfold wpGet at h
  split at h
  · next _ _ a k =>
    simp only [wpIx] at h
    cases rd
    rcases h with ⟨xs, i, d, rfl, e0, e, h⟩ | ⟨kvs, d, e0, hk, e, h⟩
    · cases re
      obtain ⟨vs, q1, r1⟩ := hs.seq e0
      rw [hK] at q1
      obtain ⟨its, r, pl, hz⟩ := I.list q1
      unfold atD at e
      obtain ⟨j, e1, e2⟩ := Option.bind_eq_some_iff.mp e
      obtain ⟨w, e3, rw'⟩ := r1.get e2
      obtain ⟨u', ew, ru⟩ := r.get e3
      cases rx
      obtain ⟨t', rfl⟩ := ry
      have hl := r.length
      have hl2 := r1.length
      have hn := line63
      obtain ⟨h1, h2, h3, h4⟩ := ixN_seq (show ixN xs.length i = some j from e1)
      have fin : EP X pins σ Q u' s := ⟨w, H, I, ru, h.here rw' hs⟩
      by_cases h0 : 0 ≤ i
      · have hj : i.toNat = j := by
          rw [seqIndex_of h0 h4] at h1
          exact Option.some.inj h1
        exact wpAny_getItem_list pl.isList h0 (by omega) (by rw [hj]; simpa using ew) fin
      · have hj : (i + (its.toArray.size : Int)).toNat = j := by
          rw [seqIndex_neg (by omega) h3] at h1
          rw [List.size_toArray, ← hl, ← hl2]
          exact Option.some.inj h1
        exact wpAny_getItem_list_neg pl.isList (by omega) (by rw [List.size_toArray]; omega) (by omega) (by rw [hj]; simpa using ew) fin
    · obtain ⟨n, ks, _, n1, q1, r1⟩ := hs.dic e0
      rw [n1] at rx
      cases rx
      obtain ⟨k', rfl, rfl⟩ := keyD_inv hk re
      obtain ⟨w, e3, rw'⟩ := r1.some e
      have g : DGet H n (kV k') (some w) := by rw [← e3]; exact DGet.k q1
      exact d_getItem (by omega) I g ry fun w' s' I' rw2 => ⟨w, H, I', rw2, h.here rw' hs⟩
  · exact h.elim
theorem set_ok (hK : K.K = X.K) (hu : X.A.units + 65 < cLine) : PSet X (fun o i v H Q => ∃ d e f s, RepD K H d o ∧ RepD K H e i ∧ RepD K H f v ∧ RepS K H s ∧ wpSet d e f s fun s' => ∀ H', Keep K H H' → RepS K H' s' → Q H') := by
  intro pins s σ H o i v ov iv u Q I ro ri rv ⟨d, e, f, t, rd, re, rf, hs, h⟩
  unfold wpSet at h
  split at h
  · next a k w t' Q' =>
    cases rd
    rcases h with ⟨xs, i, j, e0, rfl, e1, h⟩ | ⟨kvs, e0, hk, hl, h⟩
    · cases re
      obtain ⟨n, vs, en, n1, q1, r1⟩ := hs.lst e0
      rw [n1] at ro
      have kp : Keep K H (upd H n (.lst (vs.set j v))) := Keep.write q1 trivial
      refine set_list pins s σ H _ _ v ov iv u Q I ro ri rv ⟨n, vs, i, j, rfl, rfl, q1, by rw [← r1.length]; exact e1, h _ kp ?_⟩
      subst en
      exact hs.write q1 trivial ⟨n, _, rfl, upd_same, RepDs.keep kp _ _ (r1.set rf j)⟩
    · obtain ⟨n, ks, en, n1, q1, r1⟩ := hs.dic e0
      rw [n1] at ro
      cases ro
      obtain ⟨k', rfl, rfl⟩ := keyD_inv hk re
      have kp : Keep K H (upd H n (.dK (putK ks k' v))) := Keep.write q1 trivial
      refine d_setItem (by omega) I (DPut.k q1 (by rw [lim_eq, ← r1.length]; exact hl)) ri rv fun s' I' => ⟨_, I', h _ kp ?_⟩
      subst en
      exact hs.write q1 trivial ⟨n, _, rfl, upd_same, RepKV.keep kp _ _ (r1.put rf)⟩
  · exact h.elim
theorem sl_ok (hK : K.K = X.K) : SlR X (fun x lo hi H Q => ∃ d s, RepD K H d x ∧ RepS K H s ∧ wpSl d lo hi s (PQ K H Q)) := by
  intro pins s σ H x v vl vu lo hi sl Q I rx hsl pl pu ⟨d, t, rd, hs, h⟩
  have cl : ∀ {xs : List D} {vs : List V}, RepDs K H xs vs → RepDs K H (cutD xs lo hi) (cutV vs lo hi) := fun {xs vs} r => by
    unfold cutD cutV
    rw [cutIx_eq, cutIx_eq, ← r.length]
    exact (r.drop _).take _
  cases d with
  | tup xs =>
    simp only [wpSl] at h
    obtain ⟨a, vs, rfl, qa, ra⟩ := rd.tupI
    refine sl_tupA pins s σ H _ v vl vu lo hi sl Q I rx hsl pl pu ⟨a, vs, rfl, by rw [← hK]; exact qa, fun z => ?_, fun _ p hp => PQ.newT h hs (cl ra) hp⟩
    have e : cutV vs lo hi = vs := by unfold cutV; rw [z.1, z.2]; simp
    have r2 := cl ra
    rw [e] at r2
    exact h.here (RepD.tupM qa r2) hs
  | str x =>
    simp only [wpSl] at h
    cases rd
    obtain ⟨hl, h⟩ := h
    refine sl_str pins s σ H _ v vl vu _ _ sl Q I rx hsl pl pu ⟨x, rfl, by rw [lim_eq]; exact hl, ?_⟩
    have e : cutS x lo hi = ⟨(cutD x.cps.toList lo hi).toArray⟩ := by
      unfold cutS cutD
      rw [cutIx_eq, cutIx_eq]
      have e2 : x.cps.toList.length = x.length := by simp [Str.length]
      rw [e2]
    rw [e]
    exact h.str hs
  | loc a =>
    simp only [wpSl] at h
    cases rd
    obtain ⟨xs, e0, h⟩ := h
    obtain ⟨vs, q1, r1⟩ := hs.seq e0
    exact sl_list pins s σ H _ v vl vu lo hi sl Q I rx hsl pl pu ⟨_, vs, rfl, by rw [← hK]; exact q1, fun p hp => PQ.newL h hs (cl r1) hp⟩
  | _ => simp only [wpSl] at h
end
end PL
end

section
set_option Elab.async false
set_option linter.all false
set_option maxRecDepth 100000
namespace PL
open PySem PySem.Spec PyProof.Rows L2

section
variable {prog : Program} {w : World} {A : Around} {E : Value → Shared → Prop} {s : Shared} {l : Addr} {vs : Array Value} {xs : List PyData} {x : Value} {d : PyData} {as bs : List Addr} {Q : Value → Shared → Prop}
theorem index_plain {j : Nat} (hl : s.heap.IsList l vs) (rs : ReadsAll s.heap vs.toList xs as) (rx : Reads s.heap x d bs) (hxs : PyData.plainAll xs = true) (hd : d.plain = true) (hu : A.units + 1 + min (PyData.depthAll xs) d.depth < cLine)
    (hp : SeqAt.dataPlace xs d = some j) (hsz : vs.size ≤ sizeLine) (h : Q (.int j s.toks) { s with toks := s.toks + 1 }) : wpAny (model prog w) A (call (.builtin "list.index") [.ref l, x]) Q E s := by
  obtain ⟨⟨cls, dd, data, sl⟩, e1, e2, n, e3⟩ := id hl
  simp only at e2 e3
  subst e2 e3
  obtain ⟨hj, hit, hno⟩ := SeqAt.hit_at rs hxs hp
  have hn := line63
  exact call_meets F.slot_list_index ⟨_, e1, rfl⟩ F.entry_list_index (F.args_list_index_2 _ _) (SeqAt.list_indexAt l vs n dd sl x _ j hj (by omega) hit hno) ⟨e1, SeqAt.items_plain rs rx hxs hd hu, h⟩
end
/-- a method by values -/
def rM (K : Kc) (f : D → List D → PL.S → Post → Prop) : V → List V → Hp → VK → Prop := fun x vs H Q => ∃ d ds s, RepD K H d x ∧ RepDs K H ds vs ∧ RepS K H s ∧ f d ds s (PQ K H Q)
theorem PQ.wrL {K : Kc} {H : Hp} {s : PL.S} {Q : VK} {l n : Nat} {ys : List D} {vs ws : List V} {d : D} {v : V} (h : PQ K H Q d (s.up l (.lst ys))) (hs : RepS K H s) (en : l = n + 1) (q1 : H n = some (.lst vs)) (r : RepDs K H ys ws) (rd : RepD K H d v) : Q v (upd H n (.lst ws)) := by
  have kp : Keep K H (upd H n (.lst ws)) := Keep.write q1 trivial
  subst en
  exact h v _ kp (RepD.keep kp _ _ rd) (hs.write q1 trivial ⟨n, _, rfl, upd_same, RepDs.keep kp _ _ r⟩)
theorem Vals.one' {x : V} {us : List Value} (h : Vals [x] us) : ∃ u, us = [u] ∧ RelV x u := Vals.one h
section
variable {X : Cx} {K : Kc}
theorem mt_app : MtR X "list.append" (rM K wpAppend) := by
  intro pins s σ H x xs v us Q I rx rxs ⟨d, ds, t, rd, rds, hs, h⟩
  unfold wpAppend at h
  split at h
  · cases rd
    obtain ⟨vs, rfl, ry⟩ := rds.one_inv
    obtain ⟨zs, e0, hl, h⟩ := h
    obtain ⟨n, ws, en, n1, q1, r1⟩ := hs.lst e0
    rw [n1] at rx
    exact mt_append pins s σ H _ _ v us Q I rx rxs ⟨n, ws, _, rfl, rfl, q1, by rw [lim_eq, ← r1.length]; exact hl, h.wrL hs en q1 (r1.append (RepDs.one ry)) rfl⟩
  · exact h.elim
theorem mt_ext : MtR X "list.extend" (rM K wpExtend) := by
  intro pins s σ H x xs v us Q I rx rxs ⟨d, ds, t, rd, rds, hs, h⟩
  unfold wpExtend at h
  split at h
  · cases rd
    obtain ⟨vs, rfl, ry⟩ := rds.one_inv
    cases ry
    obtain ⟨zs, ys, e0, e1, hl, h⟩ := h
    obtain ⟨n, ws, en, n1, q1, r1⟩ := hs.lst e0
    obtain ⟨m, ws2, em, n2, q2, r2⟩ := hs.lst e1
    rw [n1] at rx
    rw [n2] at rxs
    exact mt_extend pins s σ H _ _ v us Q I rx rxs ⟨n, m, ws, ws2, rfl, rfl, q1, q2, by rw [lim_eq, ← r1.length, ← r2.length]; exact hl, h.wrL hs en q1 (r1.append r2) rfl⟩
  · exact h.elim
theorem mt_pop1 : MtR X "list.pop" (rM K wpPopAt) := by
  intro pins s σ H x xs v us Q I rx rxs ⟨d, ds, t, rd, rds, hs, h⟩
  unfold wpPopAt at h
  split at h
  · cases rd
    obtain ⟨vs, rfl, ry⟩ := rds.one_inv
    cases ry
    obtain ⟨zs, j, d, e0, ⟨b1, b2⟩, e1, e2, h⟩ := h
    obtain ⟨n, ws, en, n1, q1, r1⟩ := hs.lst e0
    rw [n1] at rx
    obtain ⟨w, e3, rw'⟩ := r1.get e2
    refine mt_popAt pins s σ H _ _ v us Q I rx rxs ⟨n, ws, _, j, w, rfl, rfl, q1, b1, b2, ?_, e3, h.wrL hs en q1 (r1.eraseIdx j) rw'⟩
    rw [← r1.length]
    exact (ixN_seq (show ixN zs.length _ = some j from e1)).1
  · exact h.elim
theorem mt_pop0 : MtR X "list.pop" (rM K wpPopL) := by
  intro pins s σ H x xs v us Q I rx rxs ⟨d, ds, t, rd, rds, hs, h⟩
  unfold wpPopL at h
  split at h
  · cases rd
    have e : xs = [] := by simpa [RepDs] using rds
    subst e
    obtain ⟨zs, d, e0, e2, h⟩ := h
    obtain ⟨n, ws, en, n1, q1, r1⟩ := hs.lst e0
    rw [n1] at rx
    obtain ⟨w, e3, rw'⟩ := r1.get e2
    have r2 : RepDs K H zs.dropLast ws.dropLast := by
      rw [List.dropLast_eq_take, List.dropLast_eq_take, ← r1.length]
      exact r1.take _
    exact mt_pop pins s σ H _ _ v us Q I rx rxs ⟨n, ws, w, rfl, rfl, q1, by rw [← r1.length]; exact e3, h.wrL hs en q1 r2 rw'⟩
  · exact h.elim
theorem mt_ind (hK : K.K = X.K) (hu : X.A.units + 65 < cLine) : MtR X "list.index" (rM K wpIndex) := by
  intro pins s σ H x xs v us Q I rx rxs ⟨d, ds, t, rd, rds, hs, h⟩
  unfold wpIndex at h
  split at h
  · cases rd
    obtain ⟨vs, rfl, ry⟩ := rds.one_inv
    obtain ⟨u, rfl, ru⟩ := rxs.one
    obtain ⟨zs, as, y, j, e0, e1, e2, e3, h⟩ := h
    obtain ⟨ws, q1, r1⟩ := hs.seq e0
    rw [hK] at q1
    obtain ⟨its, r, pl, hz⟩ := I.list q1
    cases rx
    obtain ⟨⟨bs, p1⟩, p2, p3⟩ := readsAll_of I hK hs e1 r1 r
    obtain ⟨⟨cs, o1⟩, o2, o3⟩ := reads_of I hK hs e2 ry ru
    have hl := r.length
    exact index_plain pl.isList (by simpa using p1) o1 p2 o2 (by omega) e3 (by rw [List.size_toArray]; omega) ⟨.int j, H, I.tok _, ⟨_, rfl⟩, h.int hs⟩
  · exact h.elim
theorem mt_rem (hK : K.K = X.K) (hu : X.A.units + 65 < cLine) : MtR X "list.remove" (rM K wpRemove) := by
  intro pins s σ H x xs v us Q I rx rxs ⟨d, ds, t, rd, rds, hs, h⟩
  unfold wpRemove at h
  split at h
  · cases rd
    obtain ⟨vs, rfl, ry⟩ := rds.one_inv
    obtain ⟨u, rfl, ru⟩ := rxs.one
    obtain ⟨zs, as, y, j, e0, e1, e2, e3, h⟩ := h
    obtain ⟨n, ws, en, n1, q1, r1⟩ := hs.lst e0
    rw [n1] at rx
    cases rx
    obtain ⟨z, its, m, r, hl, e⟩ := I.lstM q1
    obtain ⟨⟨bs, p1⟩, p2, p3⟩ := readsAll_of I hK hs e1 r1 r
    obtain ⟨⟨cs, o1⟩, o2, o3⟩ := reads_of I hK hs e2 ry ru
    refine SeqAt.remove_list_data (vs := its.toArray) ⟨_, e, rfl, _, rfl⟩ (by simpa using p1) o1 p2 o2 (by omega) e3 (by rw [List.size_toArray]; omega) ?_
    refine ⟨.non, _, I.lset (t' := s.toks) (its' := its.eraseIdx j) q1 e (by simp) (r.eraseIdx j) ?_, rfl, h.wrL hs en q1 (r1.eraseIdx j) rfl⟩
    have := len_erase ws j
    omega
  · exact h.elim
theorem mt_cnt (hK : K.K = X.K) (hu : X.A.units + 65 < cLine) : MtR X "list.count" (rM K wpCount) := by
  intro pins s σ H x xs v us Q I rx rxs ⟨d, ds, t, rd, rds, hs, h⟩
  unfold wpCount at h
  split at h
  · cases rd
    obtain ⟨vs, rfl, ry⟩ := rds.one_inv
    obtain ⟨u, rfl, ru⟩ := rxs.one
    obtain ⟨zs, as, y, e0, e1, e2, h⟩ := h
    obtain ⟨ws, q1, r1⟩ := hs.seq e0
    rw [hK] at q1
    obtain ⟨its, r, pl, hz⟩ := I.list q1
    cases rx
    obtain ⟨⟨bs, p1⟩, p2, p3⟩ := readsAll_of I hK hs e1 r1 r
    obtain ⟨⟨cs, o1⟩, o2, o3⟩ := reads_of I hK hs e2 ry ru
    exact SeqAt.count_list_data pl.isList (by simpa using p1) o1 p2 o2 (by omega) ⟨.int _, H, I.tok _, ⟨_, rfl⟩, h.int hs⟩
  · exact h.elim
end
end PL
end

section
set_option Elab.async false
set_option linter.all false
set_option maxRecDepth 100000
namespace PL
open PySem PySem.Spec PyProof.Rows L2

def clT : Cl → String
  | .tuple => "tuple" | .bool => "bool" | .int => "int" | .str => "str" | .list => "list" | .dict => "dict"
theorem cl_non (c : Cl) : kitB "NoneType" (clT c) = some false := by cases c <;> decide +kernel
theorem cl_bool (c : Cl) : kitB "bool" (clT c) = some (c == .bool || c == .int) := by cases c <;> decide +kernel
theorem cl_int (c : Cl) : kitB "int" (clT c) = some (c == .int) := by cases c <;> decide +kernel
theorem cl_str (c : Cl) : kitB "str" (clT c) = some (c == .str) := by cases c <;> decide +kernel
theorem cl_tup (c : Cl) : kitB "tuple" (clT c) = some (c == .tuple) := by cases c <;> decide +kernel
theorem cl_list (c : Cl) : kitB "list" (clT c) = some (c == .list) := by cases c <;> decide +kernel
theorem cl_dict (c : Cl) : kitB "dict" (clT c) = some (c == .dict) := by cases c <;> decide +kernel
theorem isCl_ok {K : Kc} {H : Hp} {s : PL.S} {c : Cl} {d : D} {x : V} {b : Bool} (hs : RepS K H s) (r : RepD K H d x) (e : isCl s c d = some b) : ∃ t, TyX K.K H x t ∧ PySem.W.kitOne K.K t (.type (clT c)) = some b := by
  cases d with
  | non => cases r; cases e; exact ⟨_, .base .non, kit_ty (cl_non c)⟩
  | bl v => cases r; cases e; exact ⟨_, .base (.bl _), kit_ty (cl_bool c)⟩
  | int v => cases r; cases e; exact ⟨_, .base (.int _), kit_ty (cl_int c)⟩
  | str v => cases r; cases e; exact ⟨_, .base (.str _), kit_ty (cl_str c)⟩
  | tup xs =>
    obtain ⟨a, vs, rfl, q, _⟩ := r.tupI
    cases e
    refine ⟨.type "tuple", ?_, kit_ty (cl_tup c)⟩
    rcases q with (q | ⟨o, q⟩) | ⟨o, _, _, q, q2, _⟩
    · exact .base (.tup q)
    · exact .fTuple q
    · exact .kTuple q q2
  | loc l =>
    cases r
    simp only [isCl] at e
    split at e
    · next xs e0 =>
      cases e
      obtain ⟨n, vs, _, n1, q1, _⟩ := hs.lst e0
      rw [n1]
      exact ⟨_, .base (.lst q1), kit_ty (cl_list c)⟩
    · next xs e0 =>
      cases e
      obtain ⟨n, vs, _, n1, q1, _⟩ := hs.dic e0
      rw [n1]
      exact ⟨_, .base (.dK q1), kit_ty (cl_dict c)⟩
    · cases e

section
variable {X : Cx} {K : Kc}
theorem Vals.at {xs : List V} {us : List Value} (h : Vals xs us) {i : Nat} {u : Value} (e : us[i]? = some u) : ∃ x, xs[i]? = some x ∧ RelV x u := by
  have hl := h.length
  obtain ⟨hi, _⟩ := List.getElem?_eq_some_iff.mp e
  have hx : xs[i]? = some (xs[i]'(by omega)) := List.getElem?_eq_getElem _
  obtain ⟨u', e', r⟩ := h.get hx
  rw [e] at e'; cases e'
  exact ⟨_, hx, r⟩
theorem RepDs.at {H : Hp} {ds : List D} {vs : List V} (h : RepDs K H ds vs) {i : Nat} {v : V} (e : vs[i]? = some v) : ∃ d, ds[i]? = some d ∧ RepD K H d v := by
  have hl := h.length
  obtain ⟨hi, _⟩ := List.getElem?_eq_some_iff.mp e
  have hx : ds[i]? = some (ds[i]'(by omega)) := List.getElem?_eq_getElem _
  obtain ⟨u', e', r⟩ := h.get hx
  rw [e] at e'; cases e'
  exact ⟨_, hx, r⟩
theorem mapM_at {α β : Type} {f : α → Option β} : ∀ {xs : List α} {ys : List β} {i : Nat} {x : α}, xs.mapM f = some ys → xs[i]? = some x → ∃ y, f x = some y ∧ ys[i]? = some y
  | [], _, _, _, _, e => by simp at e
  | a :: xs, ys, 0, x, h, e => by
    obtain ⟨y, r, h1, h2, rfl⟩ := mapM_cons_some h
    simp at e; subst e
    exact ⟨y, h1, rfl⟩
  | a :: xs, ys, i + 1, x, h, e => by
    obtain ⟨y, r, h1, h2, rfl⟩ := mapM_cons_some h
    simpa using mapM_at (i := i) h2 (by simpa using e)
theorem ext_core (hK : K.K = X.K) {pins : List (Addr × Obj)} {s : Shared} {σ : L2.St} {H : Hp} {Q : VK} {t : PL.S} {xs : List D} {ds : List PyData} {m : PyData} {vs : List V} {its : List Value} (I : Inv X pins σ H s) (hs : RepS K H t)
    (rv : Vals vs its) (r1 : RepDs K H xs vs) (hm : xs.mapM (dat t 50) = some ds) (h : ∀ d, d ∈ xs → dat t 50 d = some m → PQ K H Q d t) :
    ∀ (i : Nat) v h' tk bs, its.toArray[i]? = some v → Reads h' v m bs → (∀ b o, s.heap.get? b = some o → h'.get? b = some o) → EP X pins σ Q v { s with heap := h', toks := tk } := fun i v h' tk bs e r hk => by
  have e' : its[i]? = some v := by simpa using e
  obtain ⟨x, hx, ru⟩ := Vals.at rv e'
  obtain ⟨d, hd, rd⟩ := RepDs.at r1 hx
  obtain ⟨a, ha, _⟩ := mapM_at hm hd
  obtain ⟨⟨as, ra⟩, pa, _⟩ := reads_of I hK hs ha rd ru
  have eq : a = m := SeqAt.plain_unique _ _ _ _ _ pa (PyProof.Rows.Reads.keeps hk ra) r
  subst eq
  exact ⟨x, H, I.kept hk, ru, (h d (List.mem_of_getElem? hd) ha).here rd hs⟩
theorem bi_max (hK : K.K = X.K) (hu : X.A.units + 65 < cLine) (hc : X.calm = true) : CallR X (.builtin "max") (rC K wpMax) := by
  intro pins s σ H xs us Q I r ⟨ds, t, rd, hs, h⟩
  unfold wpMax at h
  split at h
  · obtain ⟨v, w, rfl, q1, q2⟩ := rd.two_inv
    cases q1; cases q2
    exact call_max2 hc pins s σ H _ us Q I r ⟨_, _, rfl, h.int hs⟩
  · obtain ⟨v, rfl, q⟩ := rd.one_inv
    obtain ⟨xs, a, as, e, hm, hal, h⟩ := h
    obtain ⟨p, vs, rfl, q1, r1⟩ := items_of hs e q
    rw [Vals.ref1 r]
    obtain ⟨its, rv, q2, _⟩ := seq_of I hK q1
    obtain ⟨⟨bs, p1⟩, p2, p3⟩ := readsAll_of I hK hs hm r1 rv
    have fin := ext_core hK I hs rv r1 hm h
    rcases q2 with q2 | q2
    · exact PySem.W.max_list_data (I.ok.hd hc) q2 (by simpa using p1) hal (by omega) fin
    · exact PySem.W.max_tuple_data (I.ok.hd hc) q2 (by simpa using p1) hal (by omega) fin
  · exact h.elim
theorem bi_min (hK : K.K = X.K) (hu : X.A.units + 65 < cLine) (hc : X.calm = true) : CallR X (.builtin "min") (rC K wpMin) := by
  intro pins s σ H xs us Q I r ⟨ds, t, rd, hs, h⟩
  unfold wpMin at h
  split at h
  · obtain ⟨v, w, rfl, q1, q2⟩ := rd.two_inv
    cases q1; cases q2
    exact call_min2 hc pins s σ H _ us Q I r ⟨_, _, rfl, h.int hs⟩
  · obtain ⟨v, rfl, q⟩ := rd.one_inv
    obtain ⟨xs, a, as, e, hm, hal, h⟩ := h
    obtain ⟨p, vs, rfl, q1, r1⟩ := items_of hs e q
    rw [Vals.ref1 r]
    obtain ⟨its, rv, q2, _⟩ := seq_of I hK q1
    obtain ⟨⟨bs, p1⟩, p2, p3⟩ := readsAll_of I hK hs hm r1 rv
    have fin := ext_core hK I hs rv r1 hm h
    rcases q2 with q2 | q2
    · exact PySem.W.min_list_data (I.ok.hd hc) q2 (by simpa using p1) hal (by omega) fin
    · exact PySem.W.min_tuple_data (I.ok.hd hc) q2 (by simpa using p1) hal (by omega) fin
  · exact h.elim
/-- truth -/
theorem tru_rep {H : Hp} {s : PL.S} {d : D} {x : V} {b : Bool} (hs : RepS K H s) (r : RepD K H d x) (e : tru s d = some b) : TruV K.K x H b := by
  cases d with
  | non => cases r; cases e; rfl
  | bl v => cases r; cases e; rfl
  | int v => cases r; cases e; rfl
  | str v =>
    cases r
    simp only [tru] at e
    split at e
    · cases e
      refine ⟨by rw [lim_eq]; assumption, ?_⟩
      rw [Bool.eq_iff_iff]
      simp
    · cases e
  | tup xs =>
    obtain ⟨a, vs, rfl, q, r1⟩ := r.tupI
    cases e
    refine .inr (.inl ⟨vs, q, ?_⟩)
    have := r1.length
    cases xs <;> cases vs <;> simp at this ⊢
  | loc l =>
    cases r
    have e0 : ∀ xs, seqAt s l = some xs → TruV K.K (.ref (K.adr l)) H (!xs.isEmpty) := fun xs e0 => by
      obtain ⟨vs, q, r1⟩ := hs.seq e0
      refine .inl ⟨vs, q, ?_⟩
      have := r1.length
      cases xs <;> cases vs <;> simp at this ⊢
    simp only [tru] at e
    split at e
    · next xs e1 => cases e; exact e0 xs (by unfold seqAt; rw [e1])
    · next xs e1 => cases e; exact e0 xs (by unfold seqAt; rw [e1])
    · next kvs e1 =>
      cases e
      obtain ⟨n, ks, _, n1, q1, r1⟩ := hs.dic e1
      rw [n1]
      refine .inr (.inr ⟨ks, q1, ?_⟩)
      have := r1.length
      cases kvs <;> cases ks <;> simp at this ⊢
    · cases e
end
end PL
end

section
set_option Elab.async false
set_option linter.all false
set_option maxRecDepth 100000
namespace PL
open PySem PySem.Spec PyProof.Rows L2

/-! ## what a text is read as -/
structure Gs where
  /-- the defs, by their numbers -/
  fns : List Str
  /-- names that the module does not bind -/
  free : List Str
def noStar : Expr → Bool
  | .Starred .. => false
  | _ => true
def visB (sc : Scope) (x : Str) : Bool := match sc.names.lookup x with
  | some .local => true
  | some .cell => true
  | some .free => true
  | _ => false
def okName (x : Str) : Bool := !(x == ("__debug__" : Str)) && !(x == ("__classdict__" : Str))
def glB (sc : Scope) (x : Str) : Bool := decide (sc.names.lookup x = some .globalImplicit) && !(x == ("__debug__" : Str)) && !(x == ("__name__" : Str))
/-- a name that may be stored here -/
def locB (sc : Scope) (fn : Str → Bool) (x : Str) : Bool := match sc.names.lookup x with
  | some .local => true
  | some .cell => fn x
  | _ => false
def plainT : Expr → Bool
  | .UnaryOp .Not _ _ => false
  | .BoolOp .. => false
  | .IfExp .. => false
  | .Compare .. => false
  | _ => true
def noSlice : Expr → Bool
  | .Slice .. => false
  | _ => true
def biName : Bi → Str
  | .len => "len" | .abs => "abs" | .int => "int" | .list => "list" | .tuple => "tuple" | .sorted => "sorted" | .sum => "sum" | .all => "all" | .any => "any" | .max => "max" | .min => "min"
  | _ => "?"
def biOk : Bi → Bool
  | .len => true | .abs => true | .int => true | .list => true | .tuple => true | .sorted => true | .sum => true | .all => true | .any => true | .max => true | .min => true
  | _ => false
def mtName : Mt → Str
  | .append => "append" | .extend => "extend" | .popAt => "pop" | .pop => "pop" | .index => "index" | .remove => "remove" | .count => "count" | .get1 => "get" | .get2 => "get"
def keysB : List Str → List (Option Expr) → Bool
  | [], [] => true
  | k :: ks, some (.Constant (.str x) _ _) :: r => decide (k = x) && keysB ks r
  | _, _ => false
/-- the names of a target -/
def tgB (N : List Str) (sc : Scope) (fn : Str → Bool) : List Nat → List Expr → Bool
  | [], [] => true
  | i :: is, .Name x _ :: r => decide (N[i]? = some x) && locB sc fn x && tgB N sc fn is r
  | _, _ => false
def tgC (N : List Str) (sc : Scope) (fn : Str → Bool) (tg : List Nat) : Bool → Expr → Bool
  | false, .Name x p => tgB N sc fn tg [.Name x p]
  | true, .Tuple es _ _ => tgB N sc fn tg es
  | _, _ => false
def ownB (N : List Str) (own : List Nat) (scope : Scope) : Option (List (Str × Nat)) := own.mapM fun i => (N[i]?).map fun x => (x, i)
def fnB (scope : Scope) : Str → Bool := fun x => scope.names.lookup x == some .cell

mutual
def chkE (G : Gs) (N : List Str) : E → Scope → Expr → Bool
  | .var i, sc, .Name x _ => decide (N[i]? = some x) && visB sc x && okName x
  | .int i, _, .Constant (.int j) _ _ => decide (i = j)
  | .str x, _, .Constant (.str y) _ _ => decide (x = y)
  | .bl x, _, .Constant (.bool y) _ _ => decide (x = y)
  | .non, _, .Constant .none _ _ => true
  | .tup es, sc, .Tuple xs _ _ => decide (es.length ≤ 1000) && xs.all noStar && chkEs G N es sc xs
  | .lst es, sc, .List xs _ => decide (es.length ≤ 1000) && xs.all noStar && chkEs G N es sc xs
  | .dic ks vs, sc, .Dict keys xs _ => decide (ks.length ≤ 15) && decide ks.Nodup && decide (ks.length = vs.length) && keysB ks keys && xs.all noStar && chkEs G N vs sc xs
  | .bin op a b, sc, .BinOp x o y _ => decide (opOf op = o) && chkE G N a sc x && chkE G N b sc y
  | .neg a, sc, .UnaryOp .USub x _ => chkE G N a sc x
  | .not a, sc, .UnaryOp .Not x _ => chkE G N a sc x
  | .and es, sc, .BoolOp .And xs _ => !es.isEmpty && xs.all noStar && chkEs G N es sc xs
  | .or es, sc, .BoolOp .Or xs _ => !es.isEmpty && xs.all noStar && chkEs G N es sc xs
  | .ife c a b, sc, .IfExp z x y _ => chkT G N c sc z && chkE G N a sc x && chkE G N b sc y
  | .cmp op a b, sc, .Compare x [o] [y] _ => decide (cmOf op = o) && !behindInMarks o y && chkE G N a sc x && chkE G N b sc y
  | .chain o1 o2 a b c, sc, .Compare x [p, q] [y, z] _ => decide (cmOf o1 = p) && decide (cmOf o2 = q) && !lastMarks [p, q] [y, z] && chkE G N a sc x && chkE G N b sc y && chkE G N c sc z
  | .isN n a, sc, .Compare x [o] [.Constant .none _ _] _ => decide (o = if n = true then CmpOp.IsNot else CmpOp.Is) && chkE G N a sc x
  | .call f es, sc, .Call (.Name x _) (y :: ys) [] _ => decide (G.fns[f]? = some x) && glB sc x && noStar y && ys.all noStar && chkEs G N es sc (y :: ys)
  | .bi (.isi c) [a], sc, .Call (.Name x _) [y, .Name z _] [] _ => decide (x = ("isinstance" : Str)) && decide (z = Str.ofString (clT c)) && G.free.contains x && G.free.contains z && glB sc x && glB sc z && noStar y && chkE G N a sc y
  | .bi b es, sc, .Call (.Name x _) (y :: ys) [] _ => biOk b && decide (biName b = x) && G.free.contains x && glB sc x && noStar y && ys.all noStar && chkEs G N es sc (y :: ys)
  | .mt m o es, sc, .Call (.Attribute x name apos) (y :: ys) [] cpos => decide (mtName m = name) && (apos.endLine == cpos.line) && decide ((y :: ys).length < 29) && (match x with | .Call .. => false | _ => true) && noStar y && ys.all noStar && chkE G N o sc x && chkEs G N es sc (y :: ys)
  | .ix a b, sc, .Subscript x y _ => noSlice y && chkE G N a sc x && chkE G N b sc y
  | .sl a lo hi, sc, .Subscript x (.Slice l h none _) _ => chkE G N a sc x && chkO G N lo sc l && chkO G N hi sc h
  | .comp el tg tup it cond own, sc, .ListComp e [⟨t, i, ifs, k⟩] scope _ => decide (k = 0) && (match ownB N own scope with
      | some ow => blkC N sc scope ow
      | none => false) && tg.all own.contains && tgC N (relS scope sc) (fnB scope) tg tup t && chkI G N it sc i && chkC G N cond (relS scope sc) ifs && chkE G N el (relS scope sc) e
  | _, _, _ => false
def chkEs (G : Gs) (N : List Str) : List E → Scope → List Expr → Bool
  | [], _, [] => true
  | e :: es, sc, x :: xs => chkE G N e sc x && chkEs G N es sc xs
  | _, _, _ => false
def chkO (G : Gs) (N : List Str) : Option E → Scope → Option Expr → Bool
  | none, _, none => true
  | some e, sc, some x => chkE G N e sc x
  | _, _, _ => false
def chkC (G : Gs) (N : List Str) : Option E → Scope → List Expr → Bool
  | none, _, [] => true
  | some e, sc, [x] => chkT G N e sc x
  | _, _, _ => false
def chkT (G : Gs) (N : List Str) : E → Scope → Expr → Bool
  | .not a, sc, .UnaryOp .Not x _ => chkT G N a sc x
  | .and es, sc, .BoolOp .And xs _ => !es.isEmpty && chkTs G N es sc xs
  | .or es, sc, .BoolOp .Or xs _ => !es.isEmpty && chkTs G N es sc xs
  | .cmp op a b, sc, .Compare x [o] [y] _ => decide (cmOf op = o) && !behindInMarks o y && chkE G N a sc x && chkE G N b sc y
  | .chain o1 o2 a b c, sc, .Compare x [p, q] [y, z] _ => decide (cmOf o1 = p) && decide (cmOf o2 = q) && !lastMarks [p, q] [y, z] && chkE G N a sc x && chkE G N b sc y && chkE G N c sc z
  | .isN n a, sc, .Compare x [o] [.Constant .none _ _] _ => decide (o = if n = true then CmpOp.IsNot else CmpOp.Is) && chkE G N a sc x
  | .val e, sc, x => plainT x && chkE G N e sc x
  | _, _, _ => false
def chkTs (G : Gs) (N : List Str) : List E → Scope → List Expr → Bool
  | [], _, [] => true
  | e :: es, sc, x :: xs => chkT G N e sc x && chkTs G N es sc xs
  | _, _, _ => false
def chkI (G : Gs) (N : List Str) : E → Scope → Expr → Bool
  | .rng es, sc, .Call (.Name x _) ys [] _ => decide (x = ("range" : Str)) && G.free.contains x && glB sc x && ys.all noStar && decide (1 ≤ ys.length) && decide (ys.length ≤ 3) && chkEs G N es sc ys
  | .val e, sc, x => (match x with | .Set .. => false | _ => true) && chkE G N e sc x
  | _, _, _ => false
end
end PL
end

section
set_option Elab.async false
set_option linter.all false
set_option maxRecDepth 100000
set_option maxHeartbeats 1000000
namespace PL
open PySem PySem.Spec PyProof.Rows L2

def spC (K : Kc) (C : Cs) (f : Nat) : Sp := fun vs H Q _ => ∃ ds s, RepDs K H ds vs ∧ RepS K H s ∧ C f ds s (PQ K H Q)
structure Stat (K : Kc) (G : Gs) (C : Cs) (N : List Str) (sc : Scope) (fn : Str → Bool) (X : Cx) : Prop where
  kk : K.K = X.K
  nN : X.N = N
  nd : N.Nodup
  sC : X.env.scope = sc
  fN : X.fn = fn
  kind : sc.kind = .function
  calm : X.calm = true
  xe : X.xe = fun _ _ => False
  un : X.A.units + 65 < cLine
  free : ∀ x ∈ G.free, X.mg x = none
  mono : CsLe C C
  call : ∀ (f : Nat) (x : Str), G.fns[f]? = some x → ∃ (ad : Addr) (fd : FuncData) (ps : List Str) (k : Nat), FnOk X.prog X.w X.K X.mg X.base CX0 k ad fd ps (spC K C f) ∧ Room k X.A ∧ X.mg x = some (.ref ad) ∧ PySem.W.keepIn X.K (.ref ad) = true ∧ Binds X.K fd ps []

def tE (K : Kc) (C : Cs) (e : E) : TE := fun σ H Q => ∃ ρ s, RepE K H ρ σ ∧ RepS K H s ∧ wpE C e ρ s (PQ K H Q)
def tT (K : Kc) (C : Cs) (e : E) : TT := fun σ H Q => ∃ ρ s, RepE K H ρ σ ∧ RepS K H s ∧ wpT C e ρ s fun b s' => ∀ H', Keep K H H' → RepS K H' s' → Q b H'
def tEs (K : Kc) (C : Cs) (es : List E) : TA := fun σ H Q => ∃ ρ s, RepE K H ρ σ ∧ RepS K H s ∧ wpEs C es ρ s fun ds s' => ∀ vs H', Keep K H H' → RepDs K H' ds vs → RepS K H' s' → Q vs H'
def tO (K : Kc) (C : Cs) (e : Option E) : TO := fun σ H Q => ∃ ρ s, RepE K H ρ σ ∧ RepS K H s ∧ wpO C e ρ s fun o s' => ∀ H', Keep K H H' → RepS K H' s' → Q o H'
def tC' (K : Kc) (C : Cs) (e : Option E) : TT := fun σ H Q => ∃ ρ s, RepE K H ρ σ ∧ RepS K H s ∧ wpC C e ρ s fun b s' => ∀ H', Keep K H H' → RepS K H' s' → Q b H'
section
variable {K : Kc} {C : Cs} {ρ : Vs} {σ : L2.St} {H : Hp} {s : PL.S}
theorem tE.mk (hC : CsLe C C) {a : E} {W : Post} {R : VK} (hρ : RepE K H ρ σ) (hs : RepS K H s) (h : wpE C a ρ s W) (f : ∀ d s1 v H1, Keep K H H1 → RepD K H1 d v → RepS K H1 s1 → W d s1 → R v H1) : tE K C a σ H R :=
  ⟨ρ, s, hρ, hs, wpE_mono hC a (fun d s1 w v H1 k r q => f d s1 v H1 k r q w) h⟩
theorem tT.mk (hC : CsLe C C) {a : E} {W : Bool → PL.S → Prop} {R : Bool → Hp → Prop} (hρ : RepE K H ρ σ) (hs : RepS K H s) (h : wpT C a ρ s W) (f : ∀ b s1 H1, Keep K H H1 → RepS K H1 s1 → W b s1 → R b H1) : tT K C a σ H R :=
  ⟨ρ, s, hρ, hs, wpT_mono hC a (fun d s1 w H1 k q => f d s1 H1 k q w) h⟩
theorem tEs.mk (hC : CsLe C C) {a : List E} {W : List D → PL.S → Prop} {R : List V → Hp → Prop} (hρ : RepE K H ρ σ) (hs : RepS K H s) (h : wpEs C a ρ s W) (f : ∀ ds s1 vs H1, Keep K H H1 → RepDs K H1 ds vs → RepS K H1 s1 → W ds s1 → R vs H1) : tEs K C a σ H R :=
  ⟨ρ, s, hρ, hs, wpEs_mono hC a (fun d s1 w v H1 k r q => f d s1 v H1 k r q w) h⟩
theorem tO.mk (hC : CsLe C C) {a : Option E} {W : Option Int → PL.S → Prop} {R : Option Int → Hp → Prop} (hρ : RepE K H ρ σ) (hs : RepS K H s) (h : wpO C a ρ s W) (f : ∀ b s1 H1, Keep K H H1 → RepS K H1 s1 → W b s1 → R b H1) : tO K C a σ H R :=
  ⟨ρ, s, hρ, hs, wpO_mono hC a (fun d s1 w H1 k q => f d s1 H1 k q w) h⟩
theorem tC'.mk (hC : CsLe C C) {a : Option E} {W : Bool → PL.S → Prop} {R : Bool → Hp → Prop} (hρ : RepE K H ρ σ) (hs : RepS K H s) (h : wpC C a ρ s W) (f : ∀ b s1 H1, Keep K H H1 → RepS K H1 s1 → W b s1 → R b H1) : tC' K C a σ H R :=
  ⟨ρ, s, hρ, hs, wpC_mono hC a (fun d s1 w H1 k q => f d s1 H1 k q w) h⟩
theorem PQ.at {Q : VK} {H' : Hp} {d : D} (q : PQ K H Q d s) (k : Keep K H H') : PQ K H' Q d s := fun v H2 k2 r hs => q v H2 (k.trans k2) r hs
end
theorem pe_imp {X : Cx} {e : Expr} {t t' : TE} (h : PE X e t) (f : ∀ σ H Q, t' σ H Q → t σ H Q) : PE X e t' := ⟨fun pins s σ H Q I q => h.run pins s σ H Q I (f σ H Q q)⟩
theorem pt_imp {X : Cx} {e : Expr} {t t' : TT} (h : PT X e t) (f : ∀ σ H Q, t' σ H Q → t σ H Q) : PT X e t' := ⟨fun pins s σ H Q I q => h.run pins s σ H Q I (f σ H Q q)⟩
theorem pw_imp {X : Cx} {e : Expr} {t t' : TT} (h : PW X e t) (f : ∀ σ H Q, t' σ H Q → t σ H Q) : PW X e t' := ⟨fun w pins s σ H Q I q => h.run w pins s σ H Q I (f σ H Q q)⟩
theorem pa_imp {X : Cx} {e : List Expr} {t t' : TA} (h : PA X e t) (f : ∀ σ H Q, t' σ H Q → t σ H Q) : PA X e t' := ⟨fun p pins s σ H Q I q => h.run p pins s σ H Q I (f σ H Q q)⟩

theorem star_cons {e : Expr} {es : List Expr} {env : PySem.Env} (h : noStar e = true) : starEach (e :: es) env = (false, eval e env) :: starEach es env := by
  cases e <;> first | rfl | (simp [noStar] at h)
theorem star_all {env : PySem.Env} {pos : Pos} : ∀ {es : List Expr}, es.all noStar = true → (backTo pos (starEach es env)).any (·.1) = false
  | [], _ => rfl
  | e :: es, h => by
    rw [List.all_cons, Bool.and_eq_true] at h
    rw [star_cons h.1]
    have := star_all (env := env) (pos := pos) h.2
    unfold backTo at this ⊢
    simpa using this
theorem vis_of {sc : Scope} {x : Str} (h : visB sc x = true) : Vis sc x := by
  unfold visB at h
  unfold Vis
  split at h <;> simp_all
theorem okName_of {x : Str} (h : okName x = true) : (x == ("__debug__" : Str)) = false ∧ (x == ("__classdict__" : Str)) = false := by
  unfold okName at h
  simpa using h
theorem gl_of {X : Cx} {sc : Scope} {x : Str} (hs : X.env.scope = sc) (h : glB sc x = true) : Gl X x ∧ (x == ("__debug__" : Str)) = false ∧ x ≠ "__name__" := by
  unfold glB at h
  simp only [Bool.and_eq_true, decide_eq_true_eq, Bool.not_eq_true', beq_eq_false_iff_ne] at h
  refine ⟨?_, by simpa using h.1.2, h.2⟩
  show X.env.scope.names.lookup x = _
  rw [hs]; exact h.1.1

section
variable {X : Cx} {K : Kc} {G : Gs} {C : Cs} {N : List Str} {sc : Scope} {fn : Str → Bool}
theorem free_of (st : Stat K G C N sc fn X) {x : Str} (h : G.free.contains x = true) : X.mg x = none := st.free x (by simpa using h)
/-- a builtin's call -/
theorem pe_bi (st : Stat K G C N sc fn X) {f : Value} {x : Str} {y : Expr} {ys : List Expr} {p pos : Pos} {b : Bi} {es : List E} (hf : (∃ id, f = .builtin id) ∨ ∃ T, f = .type T) (hc : CallR X f (rC K (wpBi b))) (hx : G.free.contains x = true) (hg : glB sc x = true) (hv : bootBuiltins x = some f)
    (h1 : noStar y = true) (h2 : ys.all noStar = true) (ha : PA X (y :: ys) (tEs K C es)) : PE X (.Call (.Name x p) (y :: ys) [] pos) (tE K C (.bi b es)) := by
  obtain ⟨g1, g2, g3⟩ := gl_of st.sC hg
  have imp : ∀ σ H Q, tE K C (.bi b es) σ H Q → tCB (rC K (wpBi b)) (tEs K C es) σ H Q := fun σ H Q ⟨ρ, s, hρ, hs, h⟩ => by
    simp only [wpE] at h
    exact tEs.mk st.mono hρ hs h fun ds s1 vs H1 k r hs1 h1 => ⟨ds, s1, r, hs1, wpBi_mono (fun d s2 q => q.at k) h1⟩
  rcases hf with ⟨id, rfl⟩ | ⟨T, rfl⟩
  · exact pe_imp (pe_callB hc g1 (free_of st hx) hv ha g3 g2 (star_cons h1) (star_all h2)) imp
  · exact pe_imp (pe_callTy hc g1 (free_of st hx) hv ha g3 g2 (star_cons h1) (star_all h2)) imp
theorem few_of {es : List Expr} {env : PySem.Env} {pos : Pos} (h : es.all noStar = true) (hl : es.length < 29) : ((backTo pos (starEach es env)).all (fun x => !x.1) && (backToKw pos (keywordEach [] env)).all (fun x => x.1.isSome)
      && decide (es.length + ([] : List Keyword).length + (if ([] : List Keyword).isEmpty then 0 else 1) < 30)) = true := by
  have h1 := star_all (env := env) (pos := pos) h
  have h2 : (backTo pos (starEach es env)).all (fun x => !x.1) = true := by
    rw [List.all_eq_true]
    rw [List.any_eq_false] at h1
    intro x hx
    simpa using h1 x hx
  rw [h2, Bool.true_and]
  have h3 : (backToKw pos (keywordEach [] env)).all (fun x => x.1.isSome) = true := rfl
  rw [h3, Bool.true_and]
  exact decide_eq_true (by simp; omega)
theorem base_of (o : Expr) (name : Str) (env : PySem.Env) (h : (match o with | .Call .. => false | _ => true) = true) : attributeBase o name env (eval o env) = eval o env := by
  cases o <;> first | rfl | (simp at h)
theorem recv_list {H : Hp} {s : PL.S} {m : Mt} {d : D} {v : V} (hm : m ≠ .get1 ∧ m ≠ .get2) (hs : RepS K H s) (r : RepD K H d v) (h : recvB m d s = true) : tyV K.K "list" v H := by
  have key : ∀ a, d = .loc a → (seqAt s a).isSome = true → tyV K.K "list" v H := fun a e h' => by
    subst e
    cases r
    obtain ⟨xs, e⟩ := Option.isSome_iff_exists.mp h'
    obtain ⟨vs, q, _⟩ := hs.seq e
    exact .inl ⟨rfl, vs, q⟩
  cases d with
  | loc a => cases m <;> first | exact key a rfl h | exact absurd rfl hm.1 | exact absurd rfl hm.2
  | _ => cases m <;> simp [recvB] at h
theorem recv_dict {H : Hp} {s : PL.S} {m : Mt} {d : D} {v : V} (hm : m = .get1 ∨ m = .get2) (hs : RepS K H s) (r : RepD K H d v) (h : recvB m d s = true) : tyV K.K "dict" v H := by
  have key : ∀ a kvs, d = .loc a → s a = some (.dic kvs) → tyV K.K "dict" v H := fun a kvs e h' => by
    subst e
    cases r
    obtain ⟨n, ks, _, n1, q, _⟩ := hs.dic h'
    rw [n1]
    exact .inr (.inr (.inl ⟨rfl, .inl ⟨ks, q⟩⟩))
  rcases hm with rfl | rfl
  · cases d <;> simp only [recvB, Bool.false_eq_true] at h
    split at h
    · exact key _ _ rfl (by assumption)
    · cases h
  · cases d <;> simp only [recvB, Bool.false_eq_true] at h
    split at h
    · exact key _ _ rfl (by assumption)
    · cases h
/-- a method's call -/
theorem pe_mt (st : Stat K G C N sc fn X) {m : Mt} {id : String} {T : String} {o : E} {es : List E} {x y : Expr} {ys : List Expr} {name : Str} {apos cpos : Pos} (pa : PlainAttrs T) (slot : Slot T name id) (hty : typeOf (.builtin id) = pure (.type "method_descriptor"))
    (hm : MtR X id (rM K (wpMt m))) (tv : ∀ {d : D} {s : PL.S} {v : V} {H : Hp}, RepS K H s → RepD K H d v → recvB m d s = true → tyV K.K T v H) (h1 : noStar y = true) (h2 : ys.all noStar = true) (hl : (y :: ys).length < 29) (hline : (apos.endLine == cpos.line) = true) (hb : (match x with | .Call .. => false | _ => true) = true)
    (hx : PE X x (tE K C o)) (ha : PA X (y :: ys) (tEs K C es)) : PE X (.Call (.Attribute x name apos) (y :: ys) [] cpos) (tE K C (.mt m o es)) := by
  refine pe_imp (pe_bm pa slot hty hm hx ha (base_of _ _ _ hb) (few_of (by rw [List.all_cons, h1, h2]; rfl) hl) hline (star_cons h1) (star_all h2)) fun σ H Q ⟨ρ, s, hρ, hs, h⟩ => ?_
  simp only [wpE] at h
  refine tE.mk st.mono hρ hs h fun d s1 v H1 k r hs1 h1 => ⟨by rw [← st.kk]; exact tv hs1 r h1.1, ?_⟩
  refine tEs.mk st.mono (hρ.keep k) hs1 h1.2 fun ds s2 vs H2 k2 r2 hs2 h2 => ⟨d, ds, s2, RepD.keep k2 _ _ r, r2, hs2, wpMt_mono (fun d s2 q => q.at (k.trans k2)) h2⟩
end
end PL
end

section
set_option Elab.async false
set_option linter.all false
set_option maxRecDepth 100000
set_option maxHeartbeats 4000000
namespace PL
open PySem PySem.Spec PyProof.Rows L2

section
variable {X : Cx} {K : Kc} {G : Gs} {C : Cs} {N : List Str} {sc : Scope} {fn : Str → Bool}
theorem RepKV.getD {H : Hp} {kvs : List (D × D)} {ks : List (Key × V)} {k : Key} {d : D} {v : V} (h : RepKV K H kvs ks) (r : RepD K H d v) : RepD K H ((dget kvs (dK k)).getD d) ((valV ks k).getD v) := by
  cases e : dget kvs (dK k) with
  | none => rw [(h.get k).2 e]; exact r
  | some d' =>
    obtain ⟨v', e2, r'⟩ := h.some e
    rw [e2]; exact r'
theorem mt_g1 (hu : X.A.units + 65 < cLine) : MtR X "dict.get" (rM K wpGet1) := by
  intro pins s σ H x xs v us Q I rx rxs ⟨d, ds, t, rd, rds, hs, h⟩
  unfold wpGet1 at h
  split at h
  · cases rd
    obtain ⟨vs, rfl, ry⟩ := rds.one_inv
    obtain ⟨u, rfl, ru⟩ := rxs.one
    obtain ⟨kvs, e0, hk, h⟩ := h
    obtain ⟨n, ks, en, n1, q1, r1⟩ := hs.dic e0
    rw [n1] at rx
    cases rx
    obtain ⟨k, rfl, rfl⟩ := keyD_inv hk ry
    exact d_get1 (by omega) I (DGet.k (k := k) q1) ru fun w' s3 I3 rw' => ⟨_, H, I3, rw', h.here (r1.getD (show RepD K H .non .non from rfl)) hs⟩
  · exact h.elim
theorem mt_g2 (hu : X.A.units + 65 < cLine) : MtR X "dict.get" (rM K wpGet2) := by
  intro pins s σ H x xs v us Q I rx rxs ⟨d, ds, t, rd, rds, hs, h⟩
  unfold wpGet2 at h
  split at h
  · cases rd
    obtain ⟨vs, w, rfl, ry, rz⟩ := rds.two_inv
    obtain ⟨u, u2, rfl, ru, ru2⟩ := rxs.two
    obtain ⟨kvs, e0, hk, h⟩ := h
    obtain ⟨n, ks, en, n1, q1, r1⟩ := hs.dic e0
    rw [n1] at rx
    cases rx
    obtain ⟨k, rfl, rfl⟩ := keyD_inv hk ry
    exact d_get2 (by omega) I (DGet.k (k := k) q1) ru ru2 fun w' s3 I3 rw' => ⟨_, H, I3, rw', h.here (r1.getD rz) hs⟩
  · exact h.elim
theorem sBi (st : Stat K G C N sc fn X) {b : Bi} {x : Str} {y : Expr} {ys : List Expr} {p pos : Pos} {es : List E} (hb : biOk b = true) (hn : biName b = x) (hx : G.free.contains x = true) (hg : glB sc x = true) (h1 : noStar y = true) (h2 : ys.all noStar = true) (ha : PA X (y :: ys) (tEs K C es)) :
    PE X (.Call (.Name x p) (y :: ys) [] pos) (tE K C (.bi b es)) := by
  subst hn
  cases b
  case len => exact pe_bi st (.inl ⟨_, rfl⟩) (bi_len st.kk) hx hg boot_len h1 h2 ha
  case abs => exact pe_bi st (.inl ⟨_, rfl⟩) bi_abs hx hg (by decide +kernel) h1 h2 ha
  case int => exact pe_bi st (.inr ⟨_, rfl⟩) bi_int hx hg (by decide +kernel) h1 h2 ha
  case list => exact pe_bi st (.inr ⟨_, rfl⟩) (bi_list st.kk) hx hg (by decide +kernel) h1 h2 ha
  case tuple => exact pe_bi st (.inr ⟨_, rfl⟩) (bi_tuple st.kk) hx hg (by decide +kernel) h1 h2 ha
  case sorted => exact pe_bi st (.inl ⟨_, rfl⟩) (bi_sorted st.kk st.un) hx hg (by decide +kernel) h1 h2 ha
  case sum => exact pe_bi st (.inl ⟨_, rfl⟩) (bi_sum st.kk st.calm) hx hg (by decide +kernel) h1 h2 ha
  case all => exact pe_bi st (.inl ⟨_, rfl⟩) (bi_all st.kk st.calm) hx hg (by decide +kernel) h1 h2 ha
  case any => exact pe_bi st (.inl ⟨_, rfl⟩) (bi_any st.kk st.calm) hx hg (by decide +kernel) h1 h2 ha
  case max => exact pe_bi st (.inl ⟨_, rfl⟩) (bi_max st.kk st.un st.calm) hx hg (by decide +kernel) h1 h2 ha
  case min => exact pe_bi st (.inl ⟨_, rfl⟩) (bi_min st.kk st.un st.calm) hx hg (by decide +kernel) h1 h2 ha
  all_goals exact absurd hb Bool.false_ne_true
theorem sMt (st : Stat K G C N sc fn X) {m : Mt} {o : E} {es : List E} {x y : Expr} {ys : List Expr} {name : Str} {apos cpos : Pos} (hn : mtName m = name) (h1 : noStar y = true) (h2 : ys.all noStar = true) (hl : (y :: ys).length < 29) (hline : (apos.endLine == cpos.line) = true) (hb : (match x with | .Call .. => false | _ => true) = true)
    (hx : PE X x (tE K C o)) (ha : PA X (y :: ys) (tEs K C es)) : PE X (.Call (.Attribute x name apos) (y :: ys) [] cpos) (tE K C (.mt m o es)) := by
  subst hn
  cases m
  case append => exact pe_mt st PySem.F.plainAttrs_list PySem.F.slot_list_append PySem.F.type_list_append mt_app (recv_list ⟨nofun, nofun⟩) h1 h2 hl hline hb hx ha
  case extend => exact pe_mt st PySem.F.plainAttrs_list PySem.F.slot_list_extend PySem.F.type_list_extend mt_ext (recv_list ⟨nofun, nofun⟩) h1 h2 hl hline hb hx ha
  case popAt => exact pe_mt st PySem.F.plainAttrs_list PySem.F.slot_list_pop PySem.F.type_list_pop mt_pop1 (recv_list ⟨nofun, nofun⟩) h1 h2 hl hline hb hx ha
  case pop => exact pe_mt st PySem.F.plainAttrs_list PySem.F.slot_list_pop PySem.F.type_list_pop mt_pop0 (recv_list ⟨nofun, nofun⟩) h1 h2 hl hline hb hx ha
  case index => exact pe_mt st PySem.F.plainAttrs_list PySem.F.slot_list_index PySem.F.type_list_index (mt_ind st.kk st.un) (recv_list ⟨nofun, nofun⟩) h1 h2 hl hline hb hx ha
  case remove => exact pe_mt st PySem.F.plainAttrs_list PySem.F.slot_list_remove PySem.F.type_list_remove (mt_rem st.kk st.un) (recv_list ⟨nofun, nofun⟩) h1 h2 hl hline hb hx ha
  case count => exact pe_mt st PySem.F.plainAttrs_list PySem.F.slot_list_count PySem.F.type_list_count (mt_cnt st.kk st.un) (recv_list ⟨nofun, nofun⟩) h1 h2 hl hline hb hx ha
  case get1 => exact pe_mt st PySem.F.plainAttrs_dict PySem.F.slot_dict_get PySem.F.type_dict_get (mt_g1 st.un) (recv_dict (.inl rfl)) h1 h2 hl hline hb hx ha
  case get2 => exact pe_mt st PySem.F.plainAttrs_dict PySem.F.slot_dict_get PySem.F.type_dict_get (mt_g2 st.un) (recv_dict (.inr rfl)) h1 h2 hl hline hb hx ha
end
end PL
end

section
set_option Elab.async false
set_option linter.all false
set_option maxRecDepth 100000
set_option maxHeartbeats 1000000
namespace PL
open PySem PySem.Spec PyProof.Rows L2

/-! ## slots -/
section
variable {K : Kc} {H : Hp} {ρ : Vs} {σ : L2.St}
theorem RepE.set {i : Nat} {d : D} {v : V} (h : RepE K H ρ σ) (r : RepD K H d v) : RepE K H (ρ.set i (some d)) (σ.set i (some v)) := by
  refine ⟨by rw [List.length_set, List.length_set]; exact h.1, fun j e q => ?_⟩
  by_cases hj : i = j
  · subst hj
    by_cases hi : i < ρ.length
    · rw [List.getElem?_set_self hi] at q
      cases q
      exact ⟨v, List.getElem?_set_self (by rw [← h.1]; exact hi), r⟩
    · rw [List.getElem?_eq_none (by rw [List.length_set]; omega)] at q
      cases q
  · rw [List.getElem?_set_ne hj] at q
    obtain ⟨w, e1, r1⟩ := h.2 j e q
    exact ⟨w, by rw [List.getElem?_set_ne hj]; exact e1, r1⟩
theorem wipeV_length (ρ : Vs) : ∀ vs : List Nat, (wipeV ρ vs).length = ρ.length
  | [] => rfl
  | v :: vs => by unfold wipeV; rw [List.length_set, wipeV_length ρ vs]
theorem wipeV_some {i : Nat} {d : D} : ∀ {vs : List Nat}, (wipeV ρ vs)[i]? = some (some d) → ρ[i]? = some (some d) ∧ i ∉ vs
  | [], h => ⟨h, by simp⟩
  | v :: vs, h => by
    unfold wipeV at h
    by_cases hi : v = i
    · subst hi
      by_cases hv : v < (wipeV ρ vs).length
      · rw [List.getElem?_set_self hv] at h; cases h
      · rw [List.getElem?_eq_none (by rw [List.length_set]; omega)] at h; cases h
    · rw [List.getElem?_set_ne hi] at h
      obtain ⟨h1, h2⟩ := wipeV_some h
      exact ⟨h1, by simp only [List.mem_cons, not_or]; exact ⟨fun e => hi e.symm, h2⟩⟩
theorem RepE.wipe {vs : List Nat} (h : RepE K H ρ σ) : RepE K H (wipeV ρ vs) (L2.wipe σ vs) := by
  refine ⟨by rw [wipeV_length, L2.wipe_length]; exact h.1, fun i d e => ?_⟩
  obtain ⟨e1, hn⟩ := wipeV_some e
  obtain ⟨v, e2, r⟩ := h.2 i d e1
  exact ⟨v, by rw [L2.wipe_out hn]; exact e2, r⟩
theorem wipe_at (σ : L2.St) (j : Nat) : ∀ vs : List Nat, (L2.wipe σ vs)[j]? = if j ∈ vs ∧ j < σ.length then some none else σ[j]?
  | [] => by simp [L2.wipe]
  | v :: vs => by
    unfold L2.wipe
    by_cases hj : v = j
    · subst hj
      by_cases hl : v < σ.length
      · rw [List.getElem?_set_self (by rw [L2.wipe_length]; exact hl), if_pos ⟨by simp, hl⟩]
      · rw [if_neg (fun z => hl z.2), List.getElem?_eq_none (by rw [List.length_set, L2.wipe_length]; omega), List.getElem?_eq_none (by omega)]
    · rw [List.getElem?_set_ne hj, wipe_at σ j vs]
      have e : (j ∈ v :: vs) = (j ∈ vs) := by simp [Ne.symm hj]
      simp only [e]
theorem wipe_same {σ σ' : L2.St} {vs : List Nat} (hl : σ.length = σ'.length) (h : ∀ j, j ∉ vs → σ[j]? = σ'[j]?) : L2.wipe σ vs = L2.wipe σ' vs := by
  apply List.ext_getElem?
  intro j
  rw [wipe_at, wipe_at, ← hl]
  by_cases hj : j ∈ vs
  · by_cases h2 : j < σ.length
    · rw [if_pos ⟨hj, h2⟩, if_pos ⟨hj, h2⟩]
    · rw [if_neg (fun z => h2 z.2), if_neg (fun z => h2 z.2), List.getElem?_eq_none (by omega), List.getElem?_eq_none (by omega)]
  · rw [if_neg (fun z => hj z.1), if_neg (fun z => hj z.1), h j hj]
theorem wipe_wipe (σ : L2.St) (vs : List Nat) : L2.wipe (L2.wipe σ vs) vs = L2.wipe σ vs := wipe_same (L2.wipe_length _ _) fun j hj => L2.wipe_out hj
theorem wipe_set {σ : L2.St} {vs : List Nat} {i : Nat} {x : Option V} (hi : i ∈ vs) : L2.wipe (σ.set i x) vs = L2.wipe σ vs :=
  wipe_same (by rw [List.length_set]) fun j hj => List.getElem?_set_ne (fun e => hj (by rw [← e]; exact hi))
end
end PL
end

section
set_option Elab.async false
set_option linter.all false
set_option maxRecDepth 100000
set_option maxHeartbeats 1000000
namespace PL
open PySem PySem.Spec PyProof.Rows L2

/-! ## what is walked -/
/-- an iterator that gives the items xs, as long as chk stays true -/
structure ItIs (K : Kc) (H0 : Hp) (J : It) (xs : List D) (chk : PL.S → Prop) : Prop where
  go : ∀ (i : Nat) (d : D) (H : Hp) (s : PL.S), Keep K H0 H → RepS K H s → chk s → xs[i]? = some d → J.go i H ∧ ∀ x H', J.yld i H x H' → RepD K H' d x ∧ Keep K H H' ∧ RepS K H' s
  stop : ∀ (H : Hp) (s : PL.S), Keep K H0 H → RepS K H s → chk s → J.stop xs.length H
def tI (K : Kc) (C : Cs) (it : E) : TI := fun σ H R => ∃ ρ s, RepE K H ρ σ ∧ RepS K H s ∧ wpI C it ρ s fun chk xs s1 => ∀ J H1, Keep K H H1 → RepS K H1 s1 → ItIs K H1 J xs chk → R J H1
section
variable {K : Kc} {H0 : Hp}
theorem it_list {a : Nat} {xs : List D} {k : PySem.W.Frag} (hk : K.K = k) : ItIs K H0 (Itl k (K.adr a)) xs (fun s => seqAt s a = some xs) := by
  subst hk
  refine ⟨fun i d H s kp hs hc e => ?_, fun H s kp hs hc => ?_⟩
  · obtain ⟨vs, q, r⟩ := hs.seq hc
    obtain ⟨v, ev, rv⟩ := r.get e
    refine ⟨⟨vs, v, q, ev⟩, fun x H' ⟨e1, f⟩ => ?_⟩
    subst e1
    have := f vs q
    rw [ev] at this; cases this
    exact ⟨rv, Keep.refl, hs⟩
  · obtain ⟨vs, q, r⟩ := hs.seq hc
    exact ⟨vs, q, by rw [r.length]; exact Nat.le_refl _⟩
theorem it_tup {a : Addr} {xs : List D} {vs : List V} {k : PySem.W.Frag} (hk : K.K = k) (q : SqT K.K H0 a vs) (r : RepDs K H0 xs vs) : ItIs K H0 (Itt k a) xs (fun _ => True) := by
  subst hk
  refine ⟨fun i d H s kp hs hc e => ?_, fun H s kp hs hc => ?_⟩
  · obtain ⟨v, ev, rv⟩ := (RepDs.keep kp _ _ r).get e
    refine ⟨⟨vs, v, kp _ _ q, ev⟩, fun x H' ⟨e1, f⟩ => ?_⟩
    subst e1
    have := f vs (kp _ _ q)
    rw [ev] at this; cases this
    exact ⟨rv, Keep.refl, hs⟩
  · exact ⟨vs, kp _ _ q, by rw [r.length]; exact Nat.le_refl _⟩
theorem it_str {x : Str} : ItIs K H0 (Its x) (x.cps.toList.map fun c => .str ⟨#[c]⟩) (fun _ => True) := by
  refine ⟨fun i d H s kp hs hc e => ?_, fun H s kp hs hc => ?_⟩
  · rw [List.getElem?_map] at e
    obtain ⟨c, ec, rfl⟩ := Option.map_eq_some_iff.mp e
    have ec' : x.cps[i]? = some c := by simpa using ec
    refine ⟨(Array.getElem?_eq_some_iff.mp ec').1, fun y H' ⟨e1, c', e2, e3⟩ => ?_⟩
    subst e1
    rw [ec'] at e2; cases e2
    exact ⟨e3, Keep.refl, hs⟩
  · show x.cps.size ≤ _
    simp
theorem it_rng {lo : Int} {n : Nat} : ItIs K H0 (Itr lo n) (rangeL lo n 1) (fun _ => True) := by
  refine ⟨fun i d H s kp hs hc e => ?_, fun H s kp hs hc => ?_⟩
  · unfold rangeL at e
    rw [List.getElem?_map] at e
    obtain ⟨c, ec, rfl⟩ := Option.map_eq_some_iff.mp e
    obtain ⟨h1, h2⟩ := List.getElem?_eq_some_iff.mp ec
    simp only [List.length_range] at h1
    rw [List.getElem_range] at h2
    subst h2
    refine ⟨h1, fun y H' ⟨e1, e2⟩ => ?_⟩
    subst e1 e2
    exact ⟨by rw [Int.mul_one]; rfl, Keep.refl, hs⟩
  · show n ≤ _
    simp [rangeL]
theorem it_rngC {lo c : Int} {n : Nat} : ItIs K H0 (Itc lo c n) (rangeL lo n c) (fun _ => True) := by
  refine ⟨fun i d H s kp hs hc e => ?_, fun H s kp hs hc => ?_⟩
  · unfold rangeL at e
    rw [List.getElem?_map] at e
    obtain ⟨k, ec, rfl⟩ := Option.map_eq_some_iff.mp e
    obtain ⟨h1, h2⟩ := List.getElem?_eq_some_iff.mp ec
    simp only [List.length_range] at h1
    rw [List.getElem_range] at h2
    subst h2
    refine ⟨h1, fun y H' ⟨e1, e2⟩ => ?_⟩
    subst e1 e2
    exact ⟨rfl, Keep.refl, hs⟩
  · show n ≤ _
    simp [rangeL]
end
section
variable {X : Cx} {K : Kc} {G : Gs} {C : Cs} {N : List Str} {sc : Scope} {fn : Str → Bool}
theorem pi_any (st : Stat K G C N sc fn X) {tg e : Expr} {a : E} (he : PE X e (tE K C a)) : PI X tg e (tI K C (.val a)) := by
  refine ⟨fun pins s σ H R I ⟨ρ, t, hρ, hs, h⟩ => ?_⟩
  simp only [wpI] at h
  refine thn (he.run pins s σ H (fun x H1 => ∃ d t1, RepD K H1 d x ∧ RepS K H1 t1 ∧ Keep K H H1 ∧ wpIter d t1 fun chk xs s1 => ∀ J H1, Keep K H H1 → RepS K H1 s1 → ItIs K H1 J xs chk → R J H1) I
    (tE.mk st.mono hρ hs h fun d s1 v H1 k r hs1 h1 => ⟨d, s1, r, hs1, k, h1⟩)) fun v s1 ⟨x, H1, I1, r1, d, t1, rd, hs1, k, h1⟩ => ?_
  unfold wpIter at h1
  split at h1
  · obtain ⟨p, vs, rfl, q, rr⟩ := rd.tupI
    cases r1
    obtain ⟨its, rv, pp, hz⟩ := I1.tuple (by rw [← st.kk]; exact q)
    refine wpAny_pyIter_tuple (show s1.heap.IsTuple p its.toArray from pp) (pi_one (tk := s1.toks) I1 _ (turn_tuple p _) ⟨_, Heap.get?_push_size _ rfl, rfl, rfl⟩ ?_)
    exact h1 _ H1 k hs1 (it_tup st.kk q rr)
  · next l =>
    cases rd
    obtain ⟨xs, e, h1⟩ := h1
    obtain ⟨vs, q, rr⟩ := hs1.seq e
    cases r1
    obtain ⟨its, rv, pp, hz⟩ := I1.list (by rw [← st.kk]; exact q)
    refine wpAny_pyIter_list pp.isList (pi_one (tk := s1.toks) I1 _ (turn_list (K.adr l) _) ⟨_, Heap.get?_push_size _ rfl, rfl, rfl⟩ ?_)
    exact h1 _ H1 k hs1 (it_list st.kk)
  · next x =>
    cases rd
    obtain ⟨t, rfl⟩ := r1
    cases ha : x.cps.all (· < 128)
    · exact wpAny_pyIter_wide ha (pi_one (tk := s1.toks) I1 _ (turn_str _ x t "str_iterator" (.inr rfl)) ⟨_, Heap.get?_push_size _ rfl, rfl, rfl⟩ (h1 _ H1 k hs1 it_str))
    · exact wpAny_pyIter_ascii ha (pi_one (tk := s1.toks) I1 _ (turn_str _ x t "str_ascii_iterator" (.inl rfl)) ⟨_, Heap.get?_push_size _ rfl, rfl, rfl⟩ (h1 _ H1 k hs1 it_str))
  · exact h1.elim
theorem pi_imp {tg e : Expr} {t t' : TI} (h : PI X tg e t) (f : ∀ σ H R, t' σ H R → t σ H R) : PI X tg e t' := ⟨fun pins s σ H R I q => h.run pins s σ H R I (f σ H R q)⟩
theorem star_one {x : Expr} {env : PySem.Env} (h : noStar x = true) : starEach [x] env = [(false, eval x env)] := star_cons h
theorem wpEs_len {C : Cs} (hC : CsLe C C) : ∀ {es : List E} {ρ : Vs} {s : PL.S} {Q : List D → PL.S → Prop}, wpEs C es ρ s Q → wpEs C es ρ s fun ds s' => ds.length = es.length ∧ Q ds s'
  | [], _, _, _, h => by simp only [wpEs] at h ⊢; exact ⟨rfl, h⟩
  | e :: es, ρ, s, Q, h => by
    simp only [wpEs] at h ⊢
    refine wpE_mono hC e (fun d s1 h1 => ?_) h
    refine wpEs_mono hC es (fun ds s2 h2 => ?_) (wpEs_len hC h1)
    exact ⟨by simp [h2.1], h2.2⟩
theorem chkEs_len {G : Gs} {N : List Str} {sc : Scope} : ∀ {es : List E} {xs : List Expr}, chkEs G N es sc xs = true → es.length = xs.length
  | [], [], _ => rfl
  | e :: es, x :: xs, h => by
    simp only [chkEs, Bool.and_eq_true] at h
    simp [chkEs_len h.2]
  | [], _ :: _, h => by simp [chkEs] at h
  | _ :: _, [], h => by simp [chkEs] at h
theorem RgC.of {a b c : Int} (h : -(2 ^ 61) ≤ a ∧ a < 2 ^ 61 ∧ -(2 ^ 61) ≤ b ∧ b < 2 ^ 61 ∧ c ≠ 0 ∧ c.natAbs < 2 ^ 30) : RgC a b c (if 0 < c then (b - a + c - 1) / c else (a - b - c - 1) / (-c)).toNat := by
  obtain ⟨h1, h2, h3, h4, h5, h6⟩ := h
  have q : ∀ (x c : Int), 0 < c → 0 < x → (x + c - 1) / c = (x - 1) / c + 1 ∧ 0 ≤ (x - 1) / c ∧ (x - 1) / c ≤ x - 1 := fun x c hc hx => by
    have e : x + c - 1 = (x - 1) + c * 1 := by omega
    refine ⟨by rw [e, Int.add_mul_ediv_left _ _ (by omega)], Int.ediv_nonneg (by omega) (by omega), ?_⟩
    exact Int.ediv_le_self _ (by omega)
  have q0 : ∀ (x c : Int), 0 < c → x ≤ 0 → (x + c - 1) / c ≤ 0 := fun x c hc hx => by
    have : (x + c - 1) / c < 1 := Int.ediv_lt_of_lt_mul hc (by omega)
    omega
  have m : ∀ (x c : Int), 0 < c → 0 < x → (x - 1) / c * c ≤ x - 1 := fun x c hc hx => Int.ediv_mul_le _ (by omega)
  refine ⟨h5, by omega, ?_, ?_⟩
  · have hn : 0 ≤ Builtin.Range.rangeSize a b c ∧ Builtin.Range.rangeSize a b c ≤ 2 ^ 62 := by
      unfold Builtin.Range.rangeSize
      split
      · split
        · obtain ⟨e1, e2, e3⟩ := q (b - a) c (by omega) (by omega)
          omega
        · omega
      · split
        · obtain ⟨e1, e2, e3⟩ := q (a - b) (-c) (by omega) (by omega)
          omega
        · omega
    unfold Builtin.Range.small
    generalize Builtin.Range.rangeSize a b c = n at hn
    simp only [Builtin.Range.rangeFitsLong, Bool.and_eq_true, Bool.or_eq_true, decide_eq_true_eq, beq_iff_eq]
    refine ⟨⟨⟨⟨⟨by omega, by omega⟩, by omega, by omega⟩, by omega, by omega⟩, by omega, by omega⟩, .inr ?_⟩
    split
    · simp only [Bool.and_eq_true, decide_eq_true_eq]; omega
    · simp only [Bool.and_eq_true, decide_eq_true_eq]; omega
  · unfold Builtin.Range.rangeSize
    by_cases hc : 0 < c
    · rw [if_pos hc, if_pos hc]
      by_cases hx : a < b
      · obtain ⟨e1, e2, _⟩ := q (b - a) c hc (by omega)
        rw [if_pos hx, e1]; omega
      · have := q0 (b - a) c hc (by omega)
        rw [if_neg hx]; omega
    · rw [if_neg hc, if_neg (by omega : ¬ c > 0)]
      have e : a - b - c - 1 = (a - b) + (-c) - 1 := by omega
      rw [e]
      by_cases hx : a > b
      · obtain ⟨e1, e2, _⟩ := q (a - b) (-c) (by omega) (by omega)
        rw [if_pos hx, e1]; omega
      · have := q0 (a - b) (-c) (by omega) (by omega)
        rw [if_neg hx]; omega
/-- range -/
theorem pi_rng (st : Stat K G C N sc fn X) {tg : Expr} {ys : List Expr} {es : List E} {p pos : Pos} (hx : G.free.contains ("range" : Str) = true) (hg : glB sc "range" = true) (h1 : ys.all noStar = true) (h2 : 1 ≤ ys.length) (h3 : ys.length ≤ 3) (hl : es.length = ys.length) (ha : PA X ys (tEs K C es)) :
    PI X tg (.Call (.Name "range" p) ys [] pos) (tI K C (.rng es)) := by
  obtain ⟨g1, g2, g3⟩ := gl_of st.sC hg
  have free := free_of st hx
  have core : ∀ {σ : L2.St} {H : Hp} {R : It → Hp → Prop} {T : List V → Hp → Prop}, tI K C (.rng es) σ H R → (∀ ds vs H1 r, ds.length = es.length → rngOf ds = some r → RepDs K H1 ds vs → (∀ J, ItIs K H1 J (rangeL r.1 r.2.1 r.2.2) (fun _ => True) → R J H1) → T vs H1) → tEs K C es σ H T := fun {σ H R T} ⟨ρ, s, hρ, hs, h⟩ f => by
    simp only [wpI] at h
    refine tEs.mk st.mono hρ hs (wpEs_len st.mono h) fun ds s1 vs H1 k r hs1 ⟨hl, h1⟩ => ?_
    split at h1
    · next r0 e0 => exact f ds vs H1 r0 hl e0 r fun J hJ => h1 J H1 k hs1 hJ
    · exact h1.elim
  have key : ∀ {ds : List D} {r : Int × Nat × Int}, rngOf ds = some r → (∃ b, ds = [.int b] ∧ (-(2 ^ 62) ≤ b ∧ b < 2 ^ 62) ∧ r = (0, b.toNat, 1)) ∨ (∃ a b, ds = [.int a, .int b] ∧ (-(2 ^ 62) ≤ a ∧ a < 2 ^ 62 ∧ -(2 ^ 62) ≤ b ∧ b < 2 ^ 62) ∧ r = (a, (b - a).toNat, 1)) ∨
      (∃ a b c, ds = [.int a, .int b, .int c] ∧ (-(2 ^ 61) ≤ a ∧ a < 2 ^ 61 ∧ -(2 ^ 61) ≤ b ∧ b < 2 ^ 61 ∧ c ≠ 0 ∧ c.natAbs < 2 ^ 30) ∧ r = (a, (if 0 < c then (b - a + c - 1) / c else (a - b - c - 1) / (-c)).toNat, c)) := fun {ds r} e0 => by
    unfold rngOf at e0
    split at e0
    · split at e0
      · next hb => cases e0; exact .inl ⟨_, rfl, hb, rfl⟩
      · cases e0
    · split at e0
      · next hb => cases e0; exact .inr (.inl ⟨_, _, rfl, hb, rfl⟩)
      · cases e0
    · split at e0
      · next hb => cases e0; exact .inr (.inr ⟨_, _, _, rfl, hb, rfl⟩)
      · cases e0
    · cases e0
  cases ys with
  | nil => exact absurd h2 (by simp)
  | cons y1 ys =>
    rw [List.all_cons, Bool.and_eq_true] at h1
    cases ys with
    | nil =>
      refine pi_imp (pi_range1 g1 free ha (star_one h1.1)) fun σ H R q => core q fun ds vs H1 r hd e0 rd f => ?_
      rw [hl] at hd
      rcases key e0 with ⟨b, rfl, hb, rfl⟩ | ⟨a, b, rfl, hb, rfl⟩ | ⟨a, b, c, rfl, hb, rfl⟩
      · obtain ⟨v, rfl, rv⟩ := rd.one_inv
        cases rv
        exact ⟨b, rfl, hb.1, hb.2, f _ it_rng⟩
      · simp at hd
      · simp at hd
    | cons y2 ys =>
      obtain ⟨h11, h12⟩ := h1
      rw [List.all_cons, Bool.and_eq_true] at h12
      cases ys with
      | nil =>
        refine pi_imp (pi_range2 g1 free ha (by rw [star_cons h11, star_one h12.1]) (star_one h12.1)) fun σ H R q => core q fun ds vs H1 r hd e0 rd f => ?_
        rw [hl] at hd
        rcases key e0 with ⟨b, rfl, hb, rfl⟩ | ⟨a, b, rfl, hb, rfl⟩ | ⟨a, b, c, rfl, hb, rfl⟩
        · simp at hd
        · obtain ⟨v, w, rfl, rv, rw'⟩ := rd.two_inv
          cases rv; cases rw'
          exact ⟨a, b, rfl, hb, f _ it_rng⟩
        · simp at hd
      | cons y3 ys =>
        cases ys with
        | cons y4 ys => simp at h3
        | nil =>
          obtain ⟨h12, h13⟩ := h12
          rw [List.all_cons, Bool.and_eq_true] at h13
          refine pi_imp (pi_range3 g1 free ha (star_cons h11) (star_all (es := [y2, y3]) (by simp [h12, h13.1]))) fun σ H R q => core q fun ds vs H1 r hd e0 rd f => ?_
          rw [hl] at hd
          rcases key e0 with ⟨b, rfl, hb, rfl⟩ | ⟨a, b, rfl, hb, rfl⟩ | ⟨a, b, c, rfl, hb, rfl⟩
          · simp at hd
          · simp at hd
          · simp only [RepDs] at rd
            obtain ⟨v, r, rfl, rv, v2, r2, rfl, rv2, v3, r3, rfl, rv3, rfl⟩ := rd
            cases rv; cases rv2; cases rv3
            exact ⟨a, b, c, _, rfl, RgC.of hb, f _ it_rngC⟩
end
end PL
end

section
set_option Elab.async false
set_option linter.all false
set_option maxRecDepth 100000
set_option maxHeartbeats 4000000
namespace PL
open PySem PySem.Spec PyProof.Rows L2

/-! ## helpers of the expressions' soundness -/
section
variable {X : Cx} {K : Kc} {G : Gs} {C : Cs} {N : List Str} {sc : Scope} {fn : Str → Bool}
theorem getD_some {ρ : Vs} {i : Nat} {d : D} (h : ρ.getD i none = some d) : ρ[i]? = some (some d) := by
  rw [List.getD_eq_getElem?_getD] at h
  cases e : ρ[i]? with
  | none => rw [e] at h; cases h
  | some o => rw [e] at h; exact congrArg some h
theorem e_var (st : Stat K G C N sc fn X) {i : Nat} {x : Str} {p : Pos} (h1 : N[i]? = some x) (h2 : visB sc x = true) (h3 : okName x = true) : PE X (.Name x p) (tE K C (.var i)) := by
  obtain ⟨n1, n2⟩ := okName_of h3
  refine pe_imp (pe_var (i := i) (by rw [st.nN]; exact h1) (by rw [st.sC]; exact vis_of h2) n1 n2) fun σ H Q ⟨ρ, s, hρ, hs, h⟩ => ?_
  simp only [wpE] at h
  split at h
  · next d e =>
    obtain ⟨v, e1, r⟩ := hρ.2 i d (getD_some e)
    exact ⟨v, e1, h.here r hs⟩
  · exact h.elim
theorem e_int {i : Int} {k} {p : Pos} : PE X (.Constant (.int i) k p) (tE K C (.int i)) := pe_imp pe_int fun σ H Q ⟨ρ, s, hρ, hs, h⟩ => by
  simp only [wpE] at h
  exact h.int hs
theorem e_str {i : Str} {k} {p : Pos} : PE X (.Constant (.str i) k p) (tE K C (.str i)) := pe_imp pe_str fun σ H Q ⟨ρ, s, hρ, hs, h⟩ => by
  simp only [wpE] at h
  exact h.str hs
theorem e_bl {i : Bool} {k} {p : Pos} : PE X (.Constant (.bool i) k p) (tE K C (.bl i)) := pe_imp pe_bl fun σ H Q ⟨ρ, s, hρ, hs, h⟩ => by
  simp only [wpE] at h
  exact h.bl hs
theorem e_non {k} {p : Pos} : PE X (.Constant .none k p) (tE K C .non) := pe_imp pe_non fun σ H Q ⟨ρ, s, hρ, hs, h⟩ => by
  simp only [wpE] at h
  exact h.non hs
theorem e_tup (st : Stat K G C N sc fn X) {es : List E} {xs : List Expr} {k} {p : Pos} (hl : es.length ≤ 1000) (ha : PA X xs (tEs K C es)) : PE X (.Tuple xs k p) (tE K C (.tup es)) :=
  pe_imp (pe_tup ha) fun σ H Q ⟨ρ, s, hρ, hs, h⟩ => by
    simp only [wpE] at h
    refine tEs.mk st.mono hρ hs (wpEs_len st.mono h) fun ds s1 vs H1 k1 r hs1 ⟨h0, h1⟩ => ⟨?_, fun p hp => ?_⟩
    · rw [lim_eq, ← r.length]; show _ ≤ 16777216; omega
    · exact (PQ.at h1 k1).newT hs1 r hp
theorem e_lst (st : Stat K G C N sc fn X) {es : List E} {xs : List Expr} {p : Pos} (hl : es.length ≤ 1000) (ha : PA X xs (tEs K C es)) : PE X (.List xs p) (tE K C (.lst es)) :=
  pe_imp (pe_lst ha) fun σ H Q ⟨ρ, s, hρ, hs, h⟩ => by
    simp only [wpE] at h
    refine tEs.mk st.mono hρ hs (wpEs_len st.mono h) fun ds s1 vs H1 k1 r hs1 ⟨h0, h1⟩ => ⟨?_, fun p hp => ?_⟩
    · rw [lim_eq, ← r.length]; show _ ≤ 16777216; omega
    · exact PQ.newL (newO_mono (fun d s2 q => PQ.at q k1) h1) hs1 r hp
theorem e_bin (st : Stat K G C N sc fn X) {op : Op} {a b : E} {x y : Expr} {p : Pos} (ha : PE X x (tE K C a)) (hb : PE X y (tE K C b)) : PE X (.BinOp x (opOf op) y p) (tE K C (.bin op a b)) :=
  pe_imp (pe_op (bin_ok st.kk st.un op) ha hb) fun σ H Q ⟨ρ, s, hρ, hs, h⟩ => by
    simp only [wpE] at h
    refine tE.mk st.mono hρ hs h fun d s1 v H1 k r hs1 h1 => tE.mk st.mono (hρ.keep k) hs1 h1 fun e s2 w H2 k2 r2 hs2 h2 => ?_
    exact ⟨d, e, s2, RepD.keep k2 _ _ r, r2, hs2, wpBin_mono (fun d s3 q => q.at (k.trans k2)) h2⟩
theorem e_cmp (st : Stat K G C N sc fn X) {op : Cm} {a b : E} {x y : Expr} {p : Pos} (hm : behindInMarks (cmOf op) y = false) (ha : PE X x (tE K C a)) (hb : PE X y (tE K C b)) : PE X (.Compare x [cmOf op] [y] p) (tE K C (.cmp op a b)) :=
  pe_imp (pe_cmpR (cm_ok st.kk st.un op) ha hb hm) fun σ H Q ⟨ρ, s, hρ, hs, h⟩ => by
    simp only [wpE] at h
    refine tE.mk st.mono hρ hs h fun d s1 v H1 k r hs1 h1 => tE.mk st.mono (hρ.keep k) hs1 h1 fun e s2 w H2 k2 r2 hs2 h2 => ?_
    exact ⟨d, e, s2, RepD.keep k2 _ _ r, r2, hs2, wpCm_mono (fun d s3 q => q.at (k.trans k2)) h2⟩
theorem t_cmp (st : Stat K G C N sc fn X) {op : Cm} {a b : E} {x y : Expr} {p : Pos} (hm : behindInMarks (cmOf op) y = false) (ha : PE X x (tE K C a)) (hb : PE X y (tE K C b)) : PT X (.Compare x [cmOf op] [y] p) (tT K C (.cmp op a b)) :=
  pt_imp (pt_cmpR (cm_ok st.kk st.un op) ha hb hm) fun σ H Q ⟨ρ, s, hρ, hs, h⟩ => by
    simp only [wpT] at h
    refine tE.mk st.mono hρ hs h fun d s1 v H1 k r hs1 h1 => tE.mk st.mono (hρ.keep k) hs1 h1 fun e s2 w H2 k2 r2 hs2 h2 => ?_
    refine ⟨d, e, s2, RepD.keep k2 _ _ r, r2, hs2, wpCm_mono (fun d s3 q v H3 k3 r3 hs3 => ?_) h2⟩
    split at q
    · cases r3; exact ⟨_, rfl, q H3 ((k.trans k2).trans k3) hs3⟩
    · exact q.elim
theorem chain_imp (st : Stat K G C N sc fn X) {o1 o2 : Cm} {a b c : E} {σ : L2.St} {H : Hp} {Q : VK} {ρ : Vs} {s : PL.S} {W : Post} (hρ : RepE K H ρ σ) (hs : RepS K H s) (hW : ∀ d s1, W d s1 → PQ K H Q d s1)
    (h : wpE C a ρ s fun x s1 => wpE C b ρ s1 fun y s2 => wpCm o1 x y s2 fun t s3 => match t with
    | .bl true => wpE C c ρ s3 fun z s4 => wpCm o2 y z s4 W
    | .bl false => W (.bl false) s3
    | _ => False) : tChain (rV K (wpCm o1)) (rV K (wpCm o2)) (tE K C a) (tE K C b) (tE K C c) σ H Q := by
  refine tE.mk st.mono hρ hs h fun d s1 v H1 k r hs1 h1 => tE.mk st.mono (hρ.keep k) hs1 h1 fun e s2 w H2 k2 r2 hs2 h2 => ?_
  refine ⟨d, e, s2, RepD.keep k2 _ _ r, r2, hs2, wpCm_mono (fun d s3 q v H3 k3 r3 hs3 => ?_) h2⟩
  have kk := (k.trans k2).trans k3
  split at q
  · cases r3
    refine ⟨true, rfl, ?_⟩
    rw [if_pos rfl]
    refine tE.mk st.mono (hρ.keep kk) hs3 q fun f s4 u H4 k4 r4 hs4 h4 => ?_
    exact ⟨e, f, s4, RepD.keep (k3.trans k4) _ _ r2, r4, hs4, wpCm_mono (fun d s5 q => (hW _ _ q).at (kk.trans k4)) h4⟩
  · cases r3
    refine ⟨false, rfl, ?_⟩
    rw [if_neg (by simp)]
    exact ((hW _ _ q).at kk).bl hs3
  · exact q.elim
theorem e_chain (st : Stat K G C N sc fn X) {o1 o2 : Cm} {a b c : E} {x y z : Expr} {p : Pos} (hm : lastMarks [cmOf o1, cmOf o2] [y, z] = false) (ha : PE X x (tE K C a)) (hb : PE X y (tE K C b)) (hc : PE X z (tE K C c)) : PE X (.Compare x [cmOf o1, cmOf o2] [y, z] p) (tE K C (.chain o1 o2 a b c)) :=
  pe_imp (pe_chain (cm_ok st.kk st.un o1) (cm_ok st.kk st.un o2) ha hb hc hm) fun σ H Q ⟨ρ, s, hρ, hs, h⟩ => by
    simp only [wpE] at h
    exact chain_imp st hρ hs (fun _ _ q => q) h
theorem t_chain (st : Stat K G C N sc fn X) {o1 o2 : Cm} {a b c : E} {x y z : Expr} {p : Pos} (hm : lastMarks [cmOf o1, cmOf o2] [y, z] = false) (ha : PE X x (tE K C a)) (hb : PE X y (tE K C b)) (hc : PE X z (tE K C c)) : PT X (.Compare x [cmOf o1, cmOf o2] [y, z] p) (tT K C (.chain o1 o2 a b c)) :=
  pt_imp (pt_chain (cm_ok st.kk st.un o1) (cm_ok st.kk st.un o2) ha hb hc hm) fun σ H Q ⟨ρ, s, hρ, hs, h⟩ => by
    simp only [wpT] at h
    refine chain_imp st (W := fun t s5 => match t with | .bl b => ∀ H', Keep K H H' → RepS K H' s5 → Q b H' | _ => False) hρ hs (fun d s1 q v H' k r hs' => ?_) h
    split at q
    · cases r; exact ⟨_, rfl, q H' k hs'⟩
    · exact q.elim
def isNonD : D → Bool
  | .non => true
  | _ => false
theorem non_iff {H : Hp} {d : D} {v : V} (r : RepD K H d v) : decide (v = .non) = isNonD d := by
  cases d with
  | tup xs => obtain ⟨a, vs, rfl, _⟩ := r.tupI; rfl
  | _ => cases r; rfl
theorem isn_eq (n : Bool) (d : D) : (match d with | .non => !n | _ => n) = (if n = true then !isNonD d else isNonD d) := by
  cases n <;> cases d <;> rfl
theorem e_isN (st : Stat K G C N sc fn X) {n : Bool} {a : E} {x : Expr} {p p2 : Pos} {k} (ha : PE X x (tE K C a)) : PE X (.Compare x [if n = true then CmpOp.IsNot else CmpOp.Is] [.Constant .none k p2] p) (tE K C (.isN n a)) := by
  have key : ∀ (σ : L2.St) (H : Hp) (Q : VK), tE K C (.isN n a) σ H Q → tE K C a σ H fun x H1 => Q (.bl (if n = true then !decide (x = .non) else decide (x = .non))) H1 := fun σ H Q ⟨ρ, s, hρ, hs, h⟩ => by
    simp only [wpE] at h
    refine tE.mk st.mono hρ hs h fun d s1 v H1 k r hs1 h1 => ?_
    rw [non_iff r, ← isn_eq]
    exact (PQ.at h1 k).bl hs1
  cases n
  · exact pe_imp (pe_cmp (pc_isN ha) (nobehind _ (by decide) (by decide))) key
  · exact pe_imp (pe_cmp (pc_notN ha) (nobehind _ (by decide) (by decide))) key
theorem t_isN (st : Stat K G C N sc fn X) {n : Bool} {a : E} {x : Expr} {p p2 : Pos} {k} (ha : PE X x (tE K C a)) : PT X (.Compare x [if n = true then CmpOp.IsNot else CmpOp.Is] [.Constant .none k p2] p) (tT K C (.isN n a)) := by
  have key : ∀ (σ : L2.St) (H : Hp) (Q : Bool → Hp → Prop), tT K C (.isN n a) σ H Q → tE K C a σ H fun x H1 => ∃ c, V.bl (if n = true then !decide (x = .non) else decide (x = .non)) = .bl c ∧ Q c H1 := fun σ H Q ⟨ρ, s, hρ, hs, h⟩ => by
    simp only [wpT] at h
    refine tE.mk st.mono hρ hs h fun d s1 v H1 k r hs1 h1 => ⟨_, rfl, ?_⟩
    rw [non_iff r, ← isn_eq]
    exact h1 H1 k hs1
  cases n
  · exact pt_imp (pt_cmp (pc_isN ha) (nobehind _ (by decide) (by decide))) key
  · exact pt_imp (pt_cmp (pc_notN ha) (nobehind _ (by decide) (by decide))) key
theorem e_neg (st : Stat K G C N sc fn X) {a : E} {x : Expr} {p : Pos} (ha : PE X x (tE K C a)) : PE X (.UnaryOp .USub x p) (tE K C (.neg a)) :=
  pe_imp (pe_un un_neg ha) fun σ H Q ⟨ρ, s, hρ, hs, h⟩ => by
    simp only [wpE] at h
    refine tE.mk st.mono hρ hs h fun d s1 v H1 k r hs1 h1 => ?_
    split at h1
    · cases r; exact ⟨_, rfl, (PQ.at h1 k).int hs1⟩
    · exact h1.elim
theorem e_not (st : Stat K G C N sc fn X) {a : E} {x : Expr} {p : Pos} (ha : PE X x (tE K C a)) : PE X (.UnaryOp .Not x p) (tE K C (.not a)) :=
  pe_imp (pe_notT ha) fun σ H Q ⟨ρ, s, hρ, hs, h⟩ => by
    simp only [wpE] at h
    refine tE.mk st.mono hρ hs h fun d s1 v H1 k r hs1 h1 => ?_
    split at h1
    · next b e => exact ⟨b, by rw [← st.kk]; exact tru_rep hs1 r e, (PQ.at h1 k).bl hs1⟩
    · exact h1.elim
theorem t_not (st : Stat K G C N sc fn X) {a : E} {x : Expr} {p : Pos} (ha : PT X x (tT K C a)) : PT X (.UnaryOp .Not x p) (tT K C (.not a)) :=
  pt_imp (pt_not ha) fun σ H Q ⟨ρ, s, hρ, hs, h⟩ => by
    simp only [wpT] at h
    exact tT.mk st.mono hρ hs h fun b s1 H1 k hs1 h1 => h1 H1 k hs1
theorem e_ife (st : Stat K G C N sc fn X) {c a b : E} {z x y : Expr} {p : Pos} (hc : PT X z (tT K C c)) (ha : PE X x (tE K C a)) (hb : PE X y (tE K C b)) : PE X (.IfExp z x y p) (tE K C (.ife c a b)) :=
  pe_imp (pe_ifExp hc ha hb) fun σ H Q ⟨ρ, s, hρ, hs, h⟩ => by
    simp only [wpE] at h
    refine tT.mk st.mono hρ hs h fun b s1 H1 k hs1 h1 => ?_
    cases b
    · rw [if_neg (by simp)] at h1 ⊢
      exact tE.mk st.mono (hρ.keep k) hs1 h1 fun d s2 v H2 k2 r hs2 h2 => (PQ.at h2 (k.trans k2)).here r hs2
    · rw [if_pos rfl] at h1 ⊢
      exact tE.mk st.mono (hρ.keep k) hs1 h1 fun d s2 v H2 k2 r hs2 h2 => (PQ.at h2 (k.trans k2)).here r hs2
theorem e_call (st : Stat K G C N sc fn X) {f : Nat} {es : List E} {x : Str} {y : Expr} {ys : List Expr} {p pos : Pos} (hf : G.fns[f]? = some x) (hg : glB sc x = true) (h1 : noStar y = true) (h2 : ys.all noStar = true) (ha : PA X (y :: ys) (tEs K C es)) :
    PE X (.Call (.Name x p) (y :: ys) [] pos) (tE K C (.call f es)) := by
  obtain ⟨g1, g2, g3⟩ := gl_of st.sC hg
  obtain ⟨ad, fd, ps, k, F, hr, hm, hk, hb⟩ := st.call f x hf
  refine pe_imp (pe_call (E := fun _ _ _ => False) F hr g1 hm hk hb .nil (fun pins σ H s e s' I q => by exact q.elim) ha g2 (star_cons h1) (star_all h2)) fun σ H Q ⟨ρ, s, hρ, hs, h⟩ => ?_
  simp only [wpE] at h
  refine tEs.mk st.mono hρ hs h fun ds s1 vs H1 k r hs1 h1 => ?_
  refine ⟨ds, s1, by rw [List.append_nil]; exact r, hs1, st.mono _ _ _ _ _ (fun d s2 q => PQ.at q k) h1⟩
theorem e_ix (st : Stat K G C N sc fn X) {a b : E} {x y : Expr} {p : Pos} (hn : noSlice y = true) (ha : PE X x (tE K C a)) (hb : PE X y (tE K C b)) : PE X (.Subscript x y p) (tE K C (.ix a b)) := by
  refine pe_imp (pe_ix (ix_ok st.kk st.un) ha hb (fun o i => ?_)) fun σ H Q ⟨ρ, s, hρ, hs, h⟩ => ?_
  · cases y <;> first | rfl | (simp [noSlice] at hn)
  · simp only [wpE] at h
    refine tE.mk st.mono hρ hs h fun d s1 v H1 k r hs1 h1 => tE.mk st.mono (hρ.keep k) hs1 h1 fun e s2 w H2 k2 r2 hs2 h2 => ?_
    exact ⟨d, e, s2, RepD.keep k2 _ _ r, r2, hs2, wpIx_mono (fun d s3 q => q.at (k.trans k2)) h2⟩
theorem o_none {sc : Scope} : PO X none (tO K C none) := by
  refine ⟨fun pins s σ H Q I ⟨ρ, t, hρ, hs, h⟩ => po_none.run pins s σ H Q I ?_⟩
  simp only [wpO] at h
  exact h H Keep.refl hs
theorem o_some (st : Stat K G C N sc fn X) {a : E} {x : Expr} (ha : PE X x (tE K C a)) : PO X (some x) (tO K C (some a)) := by
  refine ⟨fun pins s σ H Q I ⟨ρ, t, hρ, hs, h⟩ => (po_some ha).run pins s σ H Q I ?_⟩
  simp only [wpO] at h
  refine tE.mk st.mono hρ hs h fun d s1 v H1 k r hs1 h1 => ?_
  split at h1
  · cases r; exact ⟨_, rfl, h1 H1 k hs1⟩
  · exact h1.elim
theorem e_sl (st : Stat K G C N sc fn X) {a : E} {lo hi : Option E} {x : Expr} {l h : Option Expr} {p p2 : Pos} (ha : PE X x (tE K C a)) (hl : PO X l (tO K C lo)) (hh : PO X h (tO K C hi)) : PE X (.Subscript x (.Slice l h none p2) p) (tE K C (.sl a lo hi)) :=
  pe_imp (pe_slice (sl_ok st.kk) ha hl hh) fun σ H Q ⟨ρ, s, hρ, hs, h⟩ => by
    simp only [wpE] at h
    refine tE.mk st.mono hρ hs h fun d s1 v H1 k r hs1 h1 => tO.mk st.mono (hρ.keep k) hs1 h1 fun l s2 H2 k2 hs2 h2 => tO.mk st.mono (hρ.keep (k.trans k2)) hs2 h2 fun u s3 H3 k3 hs3 h3 => ?_
    exact ⟨d, s3, RepD.keep (k2.trans k3) _ _ r, hs3, wpSl_mono (fun d s4 q => q.at ((k.trans k2).trans k3)) h3⟩
theorem t_val (st : Stat K G C N sc fn X) {a : E} {x : Expr} (hp : plainT x = true) (ha : PE X x (tE K C a)) : PT X x (tT K C (.val a)) := by
  refine pt_imp (pt_truth ha fun whole => ?_) fun σ H Q ⟨ρ, s, hρ, hs, h⟩ => ?_
  · cases x <;> first | rfl | (simp [plainT] at hp) | skip
    · next op e p => cases op <;> first | rfl | (simp [plainT] at hp)
  · simp only [wpT] at h
    refine tE.mk st.mono hρ hs h fun d s1 v H1 k r hs1 h1 => ?_
    split at h1
    · next b e => exact ⟨b, by rw [← st.kk]; exact tru_rep hs1 r e, h1 H1 k hs1⟩
    · exact h1.elim
/-- and, or: the readings of the lists -/
def tAn (K : Kc) (C : Cs) (es : List E) : TE := fun σ H Q => ∃ ρ s, RepE K H ρ σ ∧ RepS K H s ∧ wpAnd C es ρ s (PQ K H Q)
def tOrr (K : Kc) (C : Cs) (es : List E) : TE := fun σ H Q => ∃ ρ s, RepE K H ρ σ ∧ RepS K H s ∧ wpOr C es ρ s (PQ K H Q)
def tAnT (K : Kc) (C : Cs) (es : List E) : TT := fun σ H Q => ∃ ρ s, RepE K H ρ σ ∧ RepS K H s ∧ wpAndT C es ρ s fun b s' => ∀ H', Keep K H H' → RepS K H' s' → Q b H'
def tOrrT (K : Kc) (C : Cs) (es : List E) : TT := fun σ H Q => ∃ ρ s, RepE K H ρ σ ∧ RepS K H s ∧ wpOrT C es ρ s fun b s' => ∀ H', Keep K H H' → RepS K H' s' → Q b H'
theorem e_an1 {a : E} {x : Expr} {p : Pos} {op} (ha : PE X x (tE K C a)) : PE X (.BoolOp op [x] p) (tAn K C [a]) := pe_imp (pe_one ha) fun σ H Q ⟨ρ, s, hρ, hs, h⟩ => by
  simp only [wpAnd] at h
  exact ⟨ρ, s, hρ, hs, h⟩
theorem e_or1 {a : E} {x : Expr} {p : Pos} {op} (ha : PE X x (tE K C a)) : PE X (.BoolOp op [x] p) (tOrr K C [a]) := pe_imp (pe_one ha) fun σ H Q ⟨ρ, s, hρ, hs, h⟩ => by
  simp only [wpOr] at h
  exact ⟨ρ, s, hρ, hs, h⟩
theorem e_an2 (st : Stat K G C N sc fn X) {a b : E} {es : List E} {x y : Expr} {ys : List Expr} {p : Pos} (ha : PE X x (tE K C a)) (hb : PE X (.BoolOp .And (y :: ys) p) (tAn K C (b :: es))) : PE X (.BoolOp .And (x :: y :: ys) p) (tAn K C (a :: b :: es)) :=
  pe_imp (pe_and ha hb) fun σ H Q ⟨ρ, s, hρ, hs, h⟩ => by
    simp only [wpAnd] at h
    refine tE.mk st.mono hρ hs h fun d s1 v H1 k r hs1 h1 => ?_
    split at h1
    · cases r
      refine ⟨true, rfl, ?_⟩
      rw [if_pos rfl]
      exact ⟨ρ, s1, hρ.keep k, hs1, wpAnd_mono st.mono (b :: es) (fun d s2 q => PQ.at q k) h1⟩
    · cases r
      refine ⟨false, rfl, ?_⟩
      rw [if_neg (by simp)]
      exact (PQ.at h1 k).bl hs1
    · exact h1.elim
theorem e_or2 (st : Stat K G C N sc fn X) {a b : E} {es : List E} {x y : Expr} {ys : List Expr} {p : Pos} (ha : PE X x (tE K C a)) (hb : PE X (.BoolOp .Or (y :: ys) p) (tOrr K C (b :: es))) : PE X (.BoolOp .Or (x :: y :: ys) p) (tOrr K C (a :: b :: es)) :=
  pe_imp (pe_or ha hb) fun σ H Q ⟨ρ, s, hρ, hs, h⟩ => by
    simp only [wpOr] at h
    refine tE.mk st.mono hρ hs h fun d s1 v H1 k r hs1 h1 => ?_
    split at h1
    · cases r
      refine ⟨true, rfl, ?_⟩
      rw [if_pos rfl]
      exact (PQ.at h1 k).bl hs1
    · cases r
      refine ⟨false, rfl, ?_⟩
      rw [if_neg (by simp)]
      exact ⟨ρ, s1, hρ.keep k, hs1, wpOr_mono st.mono (b :: es) (fun d s2 q => PQ.at q k) h1⟩
    · exact h1.elim
theorem w_an1 {a : E} {x : Expr} {p : Pos} (ha : PT X x (tT K C a)) : PW X (.BoolOp .And [x] p) (tAnT K C [a]) := pw_imp (pw_and1 ha) fun σ H Q ⟨ρ, s, hρ, hs, h⟩ => by
  simp only [wpAndT] at h
  exact ⟨ρ, s, hρ, hs, h⟩
theorem w_or1 {a : E} {x : Expr} {p : Pos} (ha : PT X x (tT K C a)) : PW X (.BoolOp .Or [x] p) (tOrrT K C [a]) := pw_imp (pw_or1 ha) fun σ H Q ⟨ρ, s, hρ, hs, h⟩ => by
  simp only [wpOrT] at h
  exact ⟨ρ, s, hρ, hs, h⟩
theorem w_an2 (st : Stat K G C N sc fn X) {a b : E} {es : List E} {x y : Expr} {ys : List Expr} {p : Pos} (ha : PT X x (tT K C a)) (hb : PW X (.BoolOp .And (y :: ys) p) (tAnT K C (b :: es))) : PW X (.BoolOp .And (x :: y :: ys) p) (tAnT K C (a :: b :: es)) :=
  pw_imp (pw_and ha hb) fun σ H Q ⟨ρ, s, hρ, hs, h⟩ => by
    simp only [wpAndT] at h
    refine tT.mk st.mono hρ hs h fun c s1 H1 k hs1 h1 => ?_
    cases c
    · rw [if_neg (by simp)] at h1 ⊢
      exact h1 H1 k hs1
    · rw [if_pos rfl] at h1 ⊢
      exact ⟨ρ, s1, hρ.keep k, hs1, wpAndT_mono st.mono (b :: es) (fun d s2 q H2 k2 hs2 => q H2 (k.trans k2) hs2) h1⟩
theorem w_or2 (st : Stat K G C N sc fn X) {a b : E} {es : List E} {x y : Expr} {ys : List Expr} {p : Pos} (ha : PT X x (tT K C a)) (hb : PW X (.BoolOp .Or (y :: ys) p) (tOrrT K C (b :: es))) : PW X (.BoolOp .Or (x :: y :: ys) p) (tOrrT K C (a :: b :: es)) :=
  pw_imp (pw_or ha hb) fun σ H Q ⟨ρ, s, hρ, hs, h⟩ => by
    simp only [wpOrT] at h
    refine tT.mk st.mono hρ hs h fun c s1 H1 k hs1 h1 => ?_
    cases c
    · rw [if_neg (by simp)] at h1 ⊢
      exact ⟨ρ, s1, hρ.keep k, hs1, wpOrT_mono st.mono (b :: es) (fun d s2 q H2 k2 hs2 => q H2 (k.trans k2) hs2) h1⟩
    · rw [if_pos rfl] at h1 ⊢
      exact h1 H1 k hs1
end
end PL
end

section
set_option Elab.async false
set_option linter.all false
set_option maxRecDepth 100000
set_option maxHeartbeats 4000000
namespace PL
open PySem PySem.Spec PyProof.Rows L2

/-! ## comprehensions -/
def gNm : List Nat → TGs
  | [] => gNil
  | i :: is => gCons (gName i) (gNm is)
def gOf (k : PySem.W.Frag) (tg : List Nat) : Bool → TG
  | true => gTup k tg.length (gNm tg)
  | false => match tg with
    | [i] => gName i
    | _ => fun _ _ _ _ => False
section
variable {X : Cx} {K : Kc} {G : Gs} {C : Cs} {N : List Str} {sc : Scope} {fn : Str → Bool}
theorem loc_of {x : Str} (h : locB sc fn x = true) : Loc sc x ∧ (fn x = true ∨ sc.names.lookup x = some .local) := by
  unfold locB at h
  split at h
  · next e => exact ⟨.inl e, .inr e⟩
  · next e => exact ⟨.inr e, .inl h⟩
  · cases h
theorem pg_nm (st : Stat K G C N sc fn X) {i : Nat} {x : Str} {p : Pos} (h1 : N[i]? = some x) (h2 : locB sc fn x = true) : PG X (.Name x p) (gName i) := by
  obtain ⟨l, f⟩ := loc_of h2
  exact pg_name (by rw [st.nN]; exact st.nd) (by rw [st.nN]; exact h1) (by rw [st.sC]; exact l) (by rw [st.fN, st.sC]; exact f)
theorem pgs_nm (st : Stat K G C N sc fn X) : ∀ {tg : List Nat} {es : List Expr}, tgB N sc fn tg es = true → PGs X es (gNm tg) ∧ (assignEach es X.env).length = tg.length ∧ (assignEach es X.env).findIdx? (·.1) = none
  | [], [], _ => ⟨pgs_nil, rfl, rfl⟩
  | i :: is, .Name x p :: r, h => by
    simp only [tgB, Bool.and_eq_true, decide_eq_true_eq] at h
    obtain ⟨h1, h2, h3⟩ := pgs_nm st h.2
    refine ⟨pgs_cons (pg_nm st h.1.1 h.1.2) h1 rfl, ?_, ?_⟩
    · show (assignEach r X.env).length + 1 = _
      rw [h2]; rfl
    · show ((false, assign (.Name x p) X.env) :: assignEach r X.env).findIdx? (·.1) = none
      rw [List.findIdx?_cons, h3]; rfl
  | [], _ :: _, h => by simp [tgB] at h
  | i :: is, [], h => by simp [tgB] at h
theorem pg_of (st : Stat K G C N sc fn X) {tg : List Nat} {tup : Bool} {t : Expr} (h : tgC N sc fn tg tup t = true) : PG X t (gOf X.K tg tup) := by
  cases tup
  · cases t <;> simp only [tgC, Bool.false_eq_true] at h
    next x p =>
    match tg, h with
    | [i], h =>
      simp only [tgB, Bool.and_eq_true, decide_eq_true_eq] at h
      exact pg_nm st h.1.1 h.1.2
    | [], h => simp [tgB] at h
    | _ :: _ :: _, h => simp [tgB] at h
  · cases t <;> simp only [tgC, Bool.false_eq_true] at h
    next es k p =>
    obtain ⟨h1, h2, h3⟩ := pgs_nm st h
    exact pg_tup st.calm h1 h2 h3
theorem gNm_ok {H : Hp} {Q : L2.St → Hp → Prop} : ∀ {tg : List Nat} {ys : List D} {ρ : Vs} {σ : L2.St} {vs : List V}, RepE K H ρ σ → RepDs K H ys vs → ys.length = tg.length →
    (∀ σ', RepE K H ((tg.zip ys).foldl (fun r p => r.set p.1 (some p.2)) ρ) σ' → (∀ own : List Nat, (∀ i ∈ tg, i ∈ own) → L2.wipe σ' own = L2.wipe σ own) → Q σ' H) → gNm tg vs σ H Q
  | [], [], ρ, σ, vs, hρ, r, _, h => by
    cases r
    exact ⟨rfl, h σ hρ fun _ _ => rfl⟩
  | i :: is, y :: ys, ρ, σ, vs, hρ, r, hl, h => by
    simp only [RepDs] at r
    obtain ⟨v, vs, rfl, rv, r⟩ := r
    refine ⟨v, vs, rfl, ?_⟩
    show gNm is vs (σ.set i (some v)) H Q
    refine gNm_ok (hρ.set rv) r (by simpa using hl) fun σ' h1 h2 => h σ' h1 fun own hown => ?_
    rw [h2 own fun j hj => hown j (by simp [hj]), wipe_set (hown i (by simp))]
  | [], _ :: _, _, _, _, _, _, hl, _ => by simp at hl
  | _ :: _, [], _, _, _, _, _, hl, _ => by simp at hl
theorem gOf_ok {H : Hp} {Q : L2.St → Hp → Prop} {tg : List Nat} {tup : Bool} {d : D} {v : V} {ρ ρ' : Vs} {σ : L2.St} {k : PySem.W.Frag} (hk : K.K = k) (hρ : RepE K H ρ σ) (r : RepD K H d v) (hb : bindC tg tup d ρ = some ρ')
    (h : ∀ σ', RepE K H ρ' σ' → (∀ own : List Nat, (∀ i ∈ tg, i ∈ own) → L2.wipe σ' own = L2.wipe σ own) → Q σ' H) : gOf k tg tup v σ H Q := by
  subst hk
  unfold bindC at hb
  cases tup
  · rw [if_neg (by simp)] at hb
    split at hb
    · next i =>
      cases hb
      exact h _ (hρ.set r) fun own hown => wipe_set (hown i (by simp))
    · cases hb
  · rw [if_pos rfl] at hb
    split at hb
    · next ys =>
      split at hb
      · next hl =>
        cases hb
        obtain ⟨a, vs, rfl, q, rr⟩ := r.tupI
        exact ⟨a, vs, rfl, q, by rw [← rr.length]; exact hl, gNm_ok hρ rr hl h⟩
      · cases hb
    · cases hb
theorem blk_stat (st : Stat K G C N sc fn X) {scope : Scope} (hk : scope.kind = .function) (s : Shared) (H : Hp) (C0 : Addr) (cl : List (Str × Addr)) (fp : List Addr) : Stat K G C N (relS scope sc) (fnB scope) (X.blk s H scope (compEnvC scope cl C0 X.env) fp) :=
  ⟨st.kk, st.nN, st.nd, by have := st.sC; subst this; rfl, rfl, hk, st.calm, rfl, st.un, st.free, st.mono, st.call⟩
/-- a comprehension's reading -/
theorem lc_imp (st : Stat K G C N sc fn X) {el it : E} {cond : Option E} {tg own : List Nat} {tup : Bool} (hsub : ∀ i ∈ tg, i ∈ own) (σ : L2.St) (H : Hp) (Q : VK) (h : tE K C (.comp el tg tup it cond own) σ H Q) :
    tLc (tI K C it) (gOf X.K tg tup) (tC' K C cond) (tE K C el) own σ H Q := by
  obtain ⟨ρ, s, hρ, hs, h⟩ := h
  simp only [wpE] at h
  refine ⟨ρ, s, hρ, hs, wpI_mono st.mono it (fun chk xs s1 h1 J H1 k1 hs1 hJ => ?_) h⟩
  intro A0 hD
  have h1 := h1 (A0 + 1) (hs1.no hD)
  generalize hQs : (fun s' => PQ K H Q (.loc (A0 + 1)) s') = Qs at h1
  generalize hturn : (fun (x : D) (s2 : PL.S) (k : Option D → PL.S → Prop) => match bindC tg tup x (wipeV ρ own) with
        | none => False
        | some ρ' => wpC C cond ρ' s2 fun b s3 => if b = true then wpE C el ρ' s3 fun y s4 => k (some y) s4 else k none s3) = turn at h1
  have hD1 : RepS K (upd H1 A0 (.lst [])) (s1.up (A0 + 1) (.lst [])) := hs1.new hD ⟨A0, [], rfl, upd_same, RepDs.nil⟩
  refine ⟨fun i m H2 => m = xs.length - i ∧ i ≤ xs.length ∧ ∃ acc s2, Keep K H1 H2 ∧ RepS K H2 s2 ∧ compL chk (A0 + 1) turn Qs (xs.drop i) acc s2, ⟨xs.length, by simp, Nat.zero_le _, [], _, Keep.up hD, hD1, h1⟩, ?_⟩
  rintro i m H2 ⟨rfl, hi, acc, s2, k2, hs2, hc⟩
  by_cases hlt : i < xs.length
  · have ex : xs[i]? = some xs[i] := List.getElem?_eq_getElem hlt
    rw [List.drop_eq_getElem_cons hlt] at hc
    simp only [compL] at hc
    obtain ⟨hchk, hc⟩ := hc
    obtain ⟨go, yl⟩ := hJ.go i _ H2 s2 k2 hs2 hchk ex
    refine .inr ⟨go, fun H3 => ∃ acc s3, Keep K H1 H3 ∧ RepS K H3 s3 ∧ compL chk (A0 + 1) turn Qs (xs.drop (i + 1)) acc s3, fun H3 ⟨acc, s3, a1, a2, a3⟩ => ⟨_, by omega, rfl, hlt, acc, s3, a1, a2, a3⟩, fun x H3 hy => ?_⟩
    obtain ⟨rx, k3, hs3⟩ := yl x H3 hy
    rw [← hturn] at hc
    simp only at hc
    split at hc
    · exact hc.elim
    · next ρ' eb =>
      have kk : Keep K H H3 := (k1.trans k2).trans k3
      refine gOf_ok st.kk ((hρ.wipe (vs := own)).keep kk) rx eb fun σ' hρ' hw => ⟨by rw [hw own hsub, wipe_wipe], ?_⟩
      refine tC'.mk st.mono hρ' hs3 hc fun b s4 H4 k4 hs4 hc => ?_
      cases b
      · rw [if_neg (by simp)] at hc ⊢
        obtain ⟨q1, s0, q2, q3⟩ := hc
        exact ⟨acc, s0, (k2.trans k3).trans k4, hs4.le q2, by rw [← hturn]; exact q3⟩
      · rw [if_pos rfl] at hc ⊢
        refine tE.mk st.mono (hρ'.keep k4) hs4 hc fun y s5 v H5 k5 ry hs5 ⟨q1, q2, s0, q3, q4⟩ => ?_
        obtain ⟨n, vs, en, e5, r5⟩ := hs5 _ _ q1
        cases en
        have hw : Keep K H5 (upd H5 A0 (.lst (vs ++ [v]))) := Keep.write e5 trivial
        refine ⟨vs, e5, by rw [lim_eq, ← r5.length]; exact q2, acc ++ [y], s0, (((k2.trans k3).trans k4).trans k5).trans hw, ?_, by rw [← hturn]; exact q4⟩
        refine RepS.le (RepS.write (u := .lst (acc ++ [y])) e5 trivial hs5 ⟨A0, vs ++ [v], rfl, upd_same, ?_⟩) q3
        exact RepDs.keep hw _ _ (r5.append (.one ry))
  · have e : i = xs.length := by omega
    subst e
    rw [List.drop_eq_nil_of_le (Nat.le_refl _)] at hc
    simp only [compL] at hc
    obtain ⟨hchk, e1, hq⟩ := hc
    rw [← hQs] at hq
    exact .inl ⟨hJ.stop H2 s2 k2 hs2 hchk, hq _ _ (k1.trans k2) rfl hs2⟩
theorem fold_ok {i : Expr} {env : PySem.Env} (h : (match i with | .Set .. => false | _ => true) = true) : ∀ x, foldedSetIterable i env x = pure x := by
  intro x
  cases i <;> first | rfl | (simp at h)
theorem e_comp (st : Stat K G C N sc fn X) {el it : E} {cond : Option E} {tg own : List Nat} {tup : Bool} {e t i : Expr} {ifs : List Expr} {scope : Scope} {ow : List (Str × Nat)} {p : Pos} (hb : blkC N sc scope ow = true) (how : ow.map (·.2) = own)
    (hsub : ∀ i ∈ tg, i ∈ own) (htg : tgC N (relS scope sc) (fnB scope) tg tup t = true) (hi : PI X t i (tI K C it)) (hfs : ∀ x, foldedSetIterable i X.env x = pure x)
    (hc : ∀ X', Stat K G C N (relS scope sc) (fnB scope) X' → PTs X' ifs (tC' K C cond)) (he : ∀ X', Stat K G C N (relS scope sc) (fnB scope) X' → PE X' e (tE K C el)) : PE X (.ListComp e [⟨t, i, ifs, 0⟩] scope p) (tE K C (.comp el tg tup it cond own)) := by
  have ok : BlkOk X.N X.env.scope scope ow := by rw [st.nN, st.sC]; exact blkOk_by hb
  refine pe_imp (pe_lc (g := gOf X.K tg tup) st.calm (by rw [st.nN]; exact st.nd) hi ok (fun s H C0 cl fp => pg_of (blk_stat st ok.kind s H C0 cl fp) htg) (fun s H C0 cl fp => hc _ (blk_stat st ok.kind s H C0 cl fp)) (fun s H C0 cl fp => he _ (blk_stat st ok.kind s H C0 cl fp)) hfs) fun σ H Q h => ?_
  rw [how]
  exact lc_imp st hsub σ H Q h
theorem c_none : PTs X [] (tC' K C none) := ⟨fun pins s σ H Q I ⟨ρ, t, hρ, hs, h⟩ => pts_nil.run pins s σ H Q I (by
  simp only [wpC] at h
  exact h H Keep.refl hs)⟩
theorem c_one {a : E} {x : Expr} (h : PT X x (tT K C a)) : PTs X [x] (tC' K C (some a)) := ⟨fun pins s σ H Q I ⟨ρ, t, hρ, hs, q⟩ => (pts_one h).run pins s σ H Q I (by
  simp only [wpC] at q
  exact ⟨ρ, t, hρ, hs, q⟩)⟩
theorem own_of {own : List Nat} {scope : Scope} : ∀ {ow : List (Str × Nat)}, ownB N own scope = some ow → ow.map (·.2) = own := by
  unfold ownB
  induction own with
  | nil => intro ow h; cases h; rfl
  | cons i is ih =>
    intro ow h
    obtain ⟨y, r, e1, e2, rfl⟩ := mapM_cons_some h
    obtain ⟨x, _, rfl⟩ := Option.map_eq_some_iff.mp e1
    simp [ih e2]
/-- isinstance -/
theorem e_isi (st : Stat K G C N sc fn X) {c : Cl} {a : E} {x z : Str} {y : Expr} {p p2 pos : Pos} (hx : x = "isinstance") (hz : z = Str.ofString (clT c)) (h1 : G.free.contains x = true) (h2 : G.free.contains z = true) (g1 : glB sc x = true) (g2 : glB sc z = true) (hn : noStar y = true) (ha : PE X y (tE K C a)) :
    PE X (.Call (.Name x p) [y, .Name z p2] [] pos) (tE K C (.bi (.isi c) [a])) := by
  subst hx hz
  obtain ⟨a1, a2, a3⟩ := gl_of st.sC g1
  obtain ⟨b1, b2, b3⟩ := gl_of st.sC g2
  have hb : bootBuiltins (Str.ofString (clT c)) = some (.type (clT c)) := by cases c <;> decide +kernel
  refine pe_imp (pe_callB call_isi a1 (free_of st h1) (by decide +kernel) (pa_cons ha (pa_cons (pe_bltn (v := .ty (clT c)) b1 (free_of st h2) hb rfl b3 b2) pa_nil) (star_cons hn)) a3 a2 (star_cons hn) (star_all (es := [.Name (Str.ofString (clT c)) p2]) rfl)) fun σ H Q ⟨ρ, s, hρ, hs, h⟩ => ?_
  simp only [wpE, wpEs, wpBi] at h
  refine tE.mk st.mono hρ hs h fun d s1 v H1 k r hs1 h1 => ?_
  simp only [wpIsi] at h1
  obtain ⟨b, e, q⟩ := h1
  obtain ⟨t, ty, kt⟩ := isCl_ok hs1 r e
  exact ⟨v, .ty (clT c), t, .type (clT c), b, rfl, .ty _, by rw [← st.kk]; exact ty, by rw [← st.kk]; exact kt, (PQ.at q k).bl hs1⟩
end
/-! ### dict displays -/
def trs (K : Kc) (C : Cs) (ks : List Str) (vs : List E) : List (TE × TE) := List.zipWith (fun k e => (tC (.str k), tE K C e)) ks vs
theorem tPairs_ok {K : Kc} {C : Cs} (hC : CsLe C C) : ∀ {ks : List Str} {vs : List E} {ρ : Vs} {σ : L2.St} {s : PL.S} {H : Hp} {W : List D → PL.S → Prop} {T : List (V × V) → Hp → Prop}, ks.length = vs.length → RepE K H ρ σ → RepS K H s → wpEs C vs ρ s W →
    (∀ ds s1 us H1, Keep K H H1 → RepDs K H1 ds us → ds.length = ks.length → RepS K H1 s1 → W ds s1 → T ((ks.map V.str).zip us) H1) → tPairs (trs K C ks vs) σ H T
  | [], [], ρ, σ, s, H, W, T, _, hρ, hs, h, f => by
    simp only [wpEs] at h
    exact f [] s [] H Keep.refl RepDs.nil rfl hs h
  | k :: ks, e :: vs, ρ, σ, s, H, W, T, hl, hρ, hs, h, f => by
    simp only [wpEs] at h
    show tE K C e σ H fun y H2 => tPairs (trs K C ks vs) σ H2 fun ps H3 => T ((.str k, y) :: ps) H3
    refine tE.mk hC hρ hs h fun d s1 v H1 k1 r hs1 h1 => ?_
    refine tPairs_ok hC (by simpa using hl) (hρ.keep k1) hs1 h1 fun ds s2 us H2 k2 r2 hl2 hs2 h2 => ?_
    exact f (d :: ds) s2 (v :: us) H2 (k1.trans k2) (.cons (RepD.keep k2 _ _ r) r2) (by simp [hl2]) hs2 h2
  | [], _ :: _, _, _, _, _, _, _, hl, _, _, _, _ => by simp at hl
  | _ :: _, [], _, _, _, _, _, _, hl, _, _, _, _ => by simp at hl
theorem mergeK_nodup : ∀ (more kvs : List (Key × V)), ((kvs ++ more).map (·.1)).Nodup → mergeK kvs more = kvs ++ more
  | [], kvs, _ => by simp [mergeK]
  | p :: r, kvs, h => by
    have hp : putK kvs p.1 p.2 = kvs ++ [p] := by
      unfold putK
      rw [if_neg]
      intro hh
      rw [List.any_eq_true] at hh
      obtain ⟨q, hq, e⟩ := hh
      simp only [List.map_append, List.map_cons, List.nodup_append] at h
      exact h.2.2 q.1 (List.mem_map_of_mem hq) p.1 (by simp) (by simpa using e)
    show mergeK (putK kvs p.1 p.2) r = _
    rw [hp, mergeK_nodup r _ (by simpa using h)]
    simp
theorem RepKV.zip {K : Kc} {H : Hp} : ∀ {ks : List Str} {ds : List D} {us : List V}, RepDs K H ds us → RepKV K H ((ks.map D.str).zip ds) ((ks.map Sum.inr).zip us)
  | [], ds, us, _ => by simp [RepKV]
  | k :: ks, [], us, r => by cases r; simp [RepKV]
  | k :: ks, d :: ds, us, r => by
    simp only [RepDs] at r
    obtain ⟨v, t, rfl, rv, rr⟩ := r
    simp only [List.map_cons, List.zip_cons_cons, RepKV]
    exact ⟨.inr k, v, _, rfl, rfl, rv, RepKV.zip rr⟩
section
variable {X : Cx} {K : Kc} {G : Gs} {C : Cs} {N : List Str} {sc : Scope} {fn : Str → Bool}
theorem zip_str {us : List V} : ∀ (ks : List Str) (us : List V), (ks.map V.str).zip us = ((ks.map Sum.inr).zip us).map fun (kv : Key × V) => (kV kv.1, kv.2)
  | [], _ => rfl
  | k :: ks, [] => rfl
  | k :: ks, u :: us => by
    simp only [List.map_cons, List.zip_cons_cons, zip_str (us := us) ks us]
    rfl
theorem e_dic (st : Stat K G C N sc fn X) {ks : List Str} {vs : List E} {keys : List (Option Expr)} {xs : List Expr} {p : Pos} (h15 : ks.length ≤ 15) (hn : ks.Nodup) (hl : ks.length = vs.length) (hk : keysB ks keys = true) (hlx : vs.length = xs.length) (h : PPs X p keys xs (trs K C ks vs)) : PE X (.Dict keys xs p) (tE K C (.dic ks vs)) := by
  have kl : ∀ {ks : List Str} {keys : List (Option Expr)}, keysB ks keys = true → keys.length = ks.length ∧ keys.all (·.isSome) = true := by
    intro ks
    induction ks with
    | nil => intro keys hk; cases keys <;> simp [keysB] at hk ⊢
    | cons k ks ih =>
      intro keys hk
      match keys, hk with
      | some (.Constant (.str x) _ _) :: r, hk =>
        simp only [keysB, Bool.and_eq_true, decide_eq_true_eq] at hk
        obtain ⟨i1, i2⟩ := ih hk.2
        exact ⟨by simp [i1], by simpa using i2⟩
  obtain ⟨kl1, kl2⟩ := kl hk
  cases keys with
  | nil =>
    simp only [List.length_nil] at kl1
    obtain rfl : ks = [] := List.length_eq_zero_iff.mp kl1.symm
    obtain rfl : vs = [] := List.length_eq_zero_iff.mp (by rw [← hl]; rfl)
    obtain rfl : xs = [] := List.length_eq_zero_iff.mp (by rw [← hlx]; rfl)
    refine pe_imp pe_dnewK fun σ H Q ⟨ρ, s, hρ, hs, h⟩ q hq => ?_
    simp only [wpE, wpEs] at h
    have := h (q + 1) (hs.no hq)
    have h2 := this.2
    rw [S.up_up] at h2
    exact h2 _ _ (Keep.up hq) rfl (hs.new hq ⟨q, [], rfl, upd_same, by simp [RepKV]⟩)
  | cons k0 keys =>
    refine pe_imp (pe_disp h kl2 (by rw [kl1, hl, hlx]) (by simp) (by rw [kl1]; exact h15)) fun σ H Q ⟨ρ, s, hρ, hs, h⟩ q hq => ?_
    simp only [wpE] at h
    refine tPairs_ok st.mono hl (hρ.keep (Keep.up hq)) (hs.new (o := .dK []) (u := .dic []) hq ⟨q, [], rfl, upd_same, by simp [RepKV]⟩) (h (q + 1) (hs.no hq)) fun ds s1 us H1 k1 r hld hs1 ⟨e1, q1⟩ => ?_
    obtain ⟨n, kk, en, _, e2, r0⟩ := hs1.dic e1
    cases en
    have : kk = [] := by simpa [RepKV] using r0
    subst this
    refine ⟨e2, (ks.map Sum.inr).zip us, zip_str (us := us) ks us, ?_, ?_⟩
    · rw [List.length_zip, List.length_map]; omega
    · have hul : us.length = ks.length := by rw [← r.length, hld]
      rw [mergeK_nodup _ _ (by
        rw [List.nil_append, List.map_fst_zip (by simp [hul])]
        exact List.Pairwise.map _ (fun a b h e => h (Sum.inr.inj e)) hn), List.nil_append]
      have hw : Keep K H1 (upd H1 q (.dK ((ks.map Sum.inr).zip us))) := Keep.write e2 trivial
      refine (PQ.at q1 ((Keep.up hq).trans k1)) _ _ hw rfl (RepS.write e2 trivial hs1 ⟨q, _, rfl, upd_same, RepKV.keep hw _ _ (RepKV.zip r)⟩)
end
end PL
end

section
set_option Elab.async false
set_option linter.all false
set_option maxRecDepth 100000
set_option maxHeartbeats 4000000
namespace PL
open PySem PySem.Spec PyProof.Rows L2

/-! ## expressions: what is checked is what runs -/
structure LsOk (K : Kc) (C : Cs) (X : Cx) (es : List E) (xs : List Expr) : Prop where
  pa : PA X xs (tEs K C es)
  an : es ≠ [] → ∀ p, PE X (.BoolOp .And xs p) (tAn K C es)
  or : es ≠ [] → ∀ p, PE X (.BoolOp .Or xs p) (tOrr K C es)
  dp : ∀ p (ks : List Str) (keys : List (Option Expr)), keysB ks keys = true → ks.length = es.length → PPs X p keys xs (trs K C ks es)
structure TsOk (K : Kc) (C : Cs) (X : Cx) (es : List E) (xs : List Expr) : Prop where
  an : es ≠ [] → ∀ p, PW X (.BoolOp .And xs p) (tAnT K C es)
  or : es ≠ [] → ∀ p, PW X (.BoolOp .Or xs p) (tOrrT K C es)
section
variable {K : Kc} {G : Gs} {C : Cs} {N : List Str}
theorem ls_nil {X : Cx} : LsOk K C X [] [] := by
  refine ⟨pa_imp pa_nil fun σ H Q ⟨ρ, s, hρ, hs, h⟩ => ?_, fun h => absurd rfl h, fun h => absurd rfl h, fun p ks keys hk hl => ?_⟩
  · simp only [wpEs] at h
    exact h [] H Keep.refl .nil hs
  · cases ks with
    | cons k ks => simp at hl
    | nil => cases keys with
      | nil => exact pps_nil
      | cons k ks => simp [keysB] at hk
theorem ls_cons {sc : Scope} {fn : Str → Bool} {X : Cx} (st : Stat K G C N sc fn X) {e : E} {es : List E} {x : Expr} {xs : List Expr} (hn : noStar x = true) (h : PE X x (tE K C e)) (ht : LsOk K C X es xs) (hl : es.length = xs.length) : LsOk K C X (e :: es) (x :: xs) := by
  refine ⟨pa_imp (pa_cons h ht.pa (star_cons hn)) fun σ H Q ⟨ρ, s, hρ, hs, h⟩ => ?_, fun _ p => ?_, fun _ p => ?_, fun p ks keys hk hlk => ?_⟩
  · simp only [wpEs] at h
    refine tE.mk st.mono hρ hs h fun d s1 v H1 k r hs1 h1 => tEs.mk st.mono (hρ.keep k) hs1 h1 fun ds s2 vs H2 k2 r2 hs2 h2 => ?_
    exact h2 (v :: vs) H2 (k.trans k2) (.cons (RepD.keep k2 _ _ r) r2) hs2
  · cases es with
    | nil => cases xs with
      | nil => exact e_an1 h
      | cons y ys => simp at hl
    | cons b es => cases xs with
      | nil => simp at hl
      | cons y ys => exact e_an2 st h (ht.an (by simp) p)
  · cases es with
    | nil => cases xs with
      | nil => exact e_or1 h
      | cons y ys => simp at hl
    | cons b es => cases xs with
      | nil => simp at hl
      | cons y ys => exact e_or2 st h (ht.or (by simp) p)
  · match ks, keys, hk with
    | k :: ks, some (.Constant (.str z) j q) :: keys, hk =>
      simp only [keysB, Bool.and_eq_true, decide_eq_true_eq] at hk
      obtain ⟨rfl, hk⟩ := hk
      exact pps_cons pe_str h (ht.dp p ks keys hk (by simpa using hlk))
    | [], _, _ => simp at hlk
theorem ts_nil {X : Cx} : TsOk K C X [] [] := ⟨fun h => absurd rfl h, fun h => absurd rfl h⟩
theorem ts_cons {sc : Scope} {fn : Str → Bool} {X : Cx} (st : Stat K G C N sc fn X) {e : E} {es : List E} {x : Expr} {xs : List Expr} (h : PT X x (tT K C e)) (ht : TsOk K C X es xs) (hl : es.length = xs.length) : TsOk K C X (e :: es) (x :: xs) := by
  refine ⟨fun _ p => ?_, fun _ p => ?_⟩
  · cases es with
    | nil => cases xs with
      | nil => exact w_an1 h
      | cons y ys => simp at hl
    | cons b es => cases xs with
      | nil => simp at hl
      | cons y ys => exact w_an2 st h (ht.an (by simp) p)
  · cases es with
    | nil => cases xs with
      | nil => exact w_or1 h
      | cons y ys => simp at hl
    | cons b es => cases xs with
      | nil => simp at hl
      | cons y ys => exact w_or2 st h (ht.or (by simp) p)
theorem chkTs_len {sc : Scope} : ∀ {es : List E} {xs : List Expr}, chkTs G N es sc xs = true → es.length = xs.length
  | [], [], _ => rfl
  | e :: es, x :: xs, h => by
    simp only [chkTs, Bool.and_eq_true] at h
    simp [chkTs_len h.2]
  | [], _ :: _, h => by simp [chkTs] at h
  | _ :: _, [], h => by simp [chkTs] at h
end
variable {K : Kc} {G : Gs} {C : Cs} {N : List Str}
mutual
theorem sE : ∀ (e : E) {sc : Scope} {fn : Str → Bool} {X : Cx} {ex : Expr}, Stat K G C N sc fn X → chkE G N e sc ex = true → PE X ex (tE K C e)
  | .var i, sc, fn, X, ex, st, h => by
    cases ex <;> simp only [chkE, Bool.false_eq_true] at h
    simp only [Bool.and_eq_true, decide_eq_true_eq] at h
    exact e_var st h.1.1 h.1.2 h.2
  | .int i, sc, fn, X, ex, st, h => by
    match ex, h with
    | .Constant (.int j) k p, h =>
      simp only [chkE, decide_eq_true_eq] at h
      subst h
      exact e_int
  | .str i, sc, fn, X, ex, st, h => by
    match ex, h with
    | .Constant (.str j) k p, h =>
      simp only [chkE, decide_eq_true_eq] at h
      subst h
      exact e_str
  | .bl i, sc, fn, X, ex, st, h => by
    match ex, h with
    | .Constant (.bool j) k p, h =>
      simp only [chkE, decide_eq_true_eq] at h
      subst h
      exact e_bl
  | .non, sc, fn, X, ex, st, h => by
    match ex, h with
    | .Constant .none k p, h => exact e_non
  | .tup es, sc, fn, X, ex, st, h => by
    cases ex <;> simp only [chkE, Bool.false_eq_true] at h
    simp only [Bool.and_eq_true, decide_eq_true_eq] at h
    exact e_tup st h.1.1 (sEs es st h.1.2 h.2).pa
  | .lst es, sc, fn, X, ex, st, h => by
    cases ex <;> simp only [chkE, Bool.false_eq_true] at h
    simp only [Bool.and_eq_true, decide_eq_true_eq] at h
    exact e_lst st h.1.1 (sEs es st h.1.2 h.2).pa
  | .dic ks vs, sc, fn, X, ex, st, h => by
    cases ex <;> simp only [chkE, Bool.false_eq_true] at h
    simp only [Bool.and_eq_true, decide_eq_true_eq] at h
    obtain ⟨⟨⟨⟨⟨h1, h2⟩, h3⟩, h4⟩, h6⟩, h5⟩ := h
    exact e_dic st h1 h2 h3 h4 (chkEs_len h5) ((sEs vs st h6 h5).dp _ _ _ h4 h3)
  | .bin op a b, sc, fn, X, ex, st, h => by
    cases ex <;> simp only [chkE, Bool.false_eq_true] at h
    simp only [Bool.and_eq_true, decide_eq_true_eq] at h
    obtain ⟨⟨rfl, h1⟩, h2⟩ := h
    exact e_bin st (sE a st h1) (sE b st h2)
  | .neg a, sc, fn, X, ex, st, h => by
    match ex, h with
    | .UnaryOp .USub x p, h =>
      simp only [chkE] at h
      exact e_neg st (sE a st h)
  | .not a, sc, fn, X, ex, st, h => by
    match ex, h with
    | .UnaryOp .Not x p, h =>
      simp only [chkE] at h
      exact e_not st (sE a st h)
  | .and es, sc, fn, X, ex, st, h => by
    match ex, h with
    | .BoolOp .And xs p, h =>
      simp only [chkE, Bool.and_eq_true, Bool.not_eq_true'] at h
      refine pe_imp ((sEs es st h.1.2 h.2).an (by rintro rfl; simp at h) _) fun σ H Q ⟨ρ, s, hρ, hs, q⟩ => ⟨ρ, s, hρ, hs, ?_⟩
      simpa only [wpE] using q
  | .or es, sc, fn, X, ex, st, h => by
    match ex, h with
    | .BoolOp .Or xs p, h =>
      simp only [chkE, Bool.and_eq_true, Bool.not_eq_true'] at h
      refine pe_imp ((sEs es st h.1.2 h.2).or (by rintro rfl; simp at h) _) fun σ H Q ⟨ρ, s, hρ, hs, q⟩ => ⟨ρ, s, hρ, hs, ?_⟩
      simpa only [wpE] using q
  | .ife c a b, sc, fn, X, ex, st, h => by
    cases ex <;> simp only [chkE, Bool.false_eq_true] at h
    simp only [Bool.and_eq_true] at h
    exact e_ife st (sT c st h.1.1) (sE a st h.1.2) (sE b st h.2)
  | .cmp op a b, sc, fn, X, ex, st, h => by
    match ex, h with
    | .Compare x [o] [y] p, h =>
      simp only [chkE, Bool.and_eq_true, decide_eq_true_eq, Bool.not_eq_true'] at h
      obtain ⟨⟨⟨rfl, h1⟩, h2⟩, h3⟩ := h
      exact e_cmp st h1 (sE a st h2) (sE b st h3)
  | .chain o1 o2 a b c, sc, fn, X, ex, st, h => by
    match ex, h with
    | .Compare x [o, o'] [y, z] p, h =>
      simp only [chkE, Bool.and_eq_true, decide_eq_true_eq, Bool.not_eq_true'] at h
      obtain ⟨⟨⟨⟨⟨rfl, rfl⟩, h1⟩, h2⟩, h3⟩, h4⟩ := h
      exact e_chain st h1 (sE a st h2) (sE b st h3) (sE c st h4)
  | .isN n a, sc, fn, X, ex, st, h => by
    match ex, h with
    | .Compare x [o] [.Constant .none k p2] p, h =>
      simp only [chkE, Bool.and_eq_true, decide_eq_true_eq] at h
      obtain ⟨rfl, h1⟩ := h
      exact e_isN st (sE a st h1)
  | .call f es, sc, fn, X, ex, st, h => by
    match ex, h with
    | .Call (.Name x p1) (y :: ys) [] p, h =>
      simp only [chkE, Bool.and_eq_true, decide_eq_true_eq] at h
      obtain ⟨⟨⟨⟨h1, h2⟩, h3⟩, h4⟩, h5⟩ := h
      exact e_call st h1 h2 h3 h4 (sEs es st (by rw [List.all_cons, h3, h4]; rfl) h5).pa
  | .bi b es, sc, fn, X, ex, st, h => by
    rw [chkE.eq_def] at h
    simp only at h
    split at h
    case h_19 =>
      next hq =>
      cases hq
      simp only [Bool.and_eq_true, decide_eq_true_eq] at h
      obtain ⟨⟨⟨⟨⟨⟨⟨h1, h2⟩, h3⟩, h4⟩, h5⟩, h6⟩, h7⟩, h8⟩ := h
      exact e_isi st h1 h2 h3 h4 h5 h6 h7 (sE _ st h8)
    case h_20 =>
      next hq =>
      cases hq
      simp only [Bool.and_eq_true, decide_eq_true_eq] at h
      obtain ⟨⟨⟨⟨⟨⟨h1, h2⟩, h3⟩, h4⟩, h5⟩, h6⟩, h7⟩ := h
      exact sBi st h1 h2 h3 h4 h5 h6 (sEs es st (by rw [List.all_cons, h5, h6]; rfl) h7).pa
    all_goals first
      | (cases h; done)
      | (next hq => cases hq)
  | .mt m o es, sc, fn, X, ex, st, h => by
    match ex, h with
    | .Call (.Attribute x name apos) (y :: ys) [] p, h =>
      simp only [chkE, Bool.and_eq_true, decide_eq_true_eq] at h
      obtain ⟨⟨⟨⟨⟨⟨⟨h1, h2⟩, h3⟩, h4⟩, h5⟩, h6⟩, h7⟩, h8⟩ := h
      exact sMt st h1 h5 h6 h3 h2 h4 (sE o st h7) (sEs es st (by rw [List.all_cons, h5, h6]; rfl) h8).pa
  | .ix a b, sc, fn, X, ex, st, h => by
    cases ex <;> simp only [chkE, Bool.false_eq_true] at h
    simp only [Bool.and_eq_true] at h
    exact e_ix st h.1.1 (sE a st h.1.2) (sE b st h.2)
  | .sl a lo hi, sc, fn, X, ex, st, h => by
    match ex, h with
    | .Subscript x (.Slice l u none p2) p, h =>
      simp only [chkE, Bool.and_eq_true] at h
      exact e_sl st (sE a st h.1.1) (sO lo st h.1.2) (sO hi st h.2)
  | .comp el tg tup it cond own, sc, fn, X, ex, st, h => by
    match ex, h with
    | .ListComp e [⟨t, i, ifs, k⟩] scope p, h =>
      simp only [chkE, Bool.and_eq_true, decide_eq_true_eq, List.all_eq_true, List.contains_iff_mem] at h
      obtain ⟨⟨⟨⟨⟨⟨rfl, h1⟩, h2⟩, h3⟩, h4⟩, h5⟩, h6⟩ := h
      split at h1
      · next ow how =>
        obtain ⟨i1, i2⟩ := sI it (tg := t) st h4
        exact e_comp st h1 (own_of how) h2 h3 i1 i2 (fun X' st' => sC cond st' h5) (fun X' st' => sE el st' h6)
      · cases h1
  | .val a, _, _, _, ex, _, h => by simp [chkE] at h
  | .rng a, _, _, _, ex, _, h => by simp [chkE] at h
  | .zip a b, _, _, _, ex, _, h => by simp [chkE] at h
  | .rev a, _, _, _, ex, _, h => by simp [chkE] at h
  | .itm a, _, _, _, ex, _, h => by simp [chkE] at h
  | .vls a, _, _, _, ex, _, h => by simp [chkE] at h
  | .comp2 .., _, _, _, ex, _, h => by simp [chkE] at h
theorem sEs : ∀ (es : List E) {sc : Scope} {fn : Str → Bool} {X : Cx} {xs : List Expr}, Stat K G C N sc fn X → xs.all noStar = true → chkEs G N es sc xs = true → LsOk K C X es xs
  | [], _, _, _, [], _, _, _ => ls_nil
  | e :: es, sc, fn, X, x :: xs, st, hn, h => by
    simp only [chkEs, Bool.and_eq_true] at h
    rw [List.all_cons, Bool.and_eq_true] at hn
    exact ls_cons st hn.1 (sE e st h.1) (sEs es st hn.2 h.2) (chkEs_len h.2)
  | [], _, _, _, _ :: _, _, _, h => by simp [chkEs] at h
  | _ :: _, _, _, _, [], _, _, h => by simp [chkEs] at h
theorem sO : ∀ (o : Option E) {sc : Scope} {fn : Str → Bool} {X : Cx} {x : Option Expr}, Stat K G C N sc fn X → chkO G N o sc x = true → PO X x (tO K C o)
  | none, sc, _, _, none, _, _ => o_none (sc := sc)
  | some e, _, _, _, some x, st, h => by
    simp only [chkO] at h
    exact o_some st (sE e st h)
  | none, _, _, _, some _, _, h => by simp [chkO] at h
  | some _, _, _, _, none, _, h => by simp [chkO] at h
theorem sC : ∀ (o : Option E) {sc : Scope} {fn : Str → Bool} {X : Cx} {x : List Expr}, Stat K G C N sc fn X → chkC G N o sc x = true → PTs X x (tC' K C o)
  | none, sc, _, _, [], _, _ => c_none
  | some e, _, _, _, [x], st, h => by
    simp only [chkC] at h
    exact c_one (sT e st h)
  | none, _, _, _, _ :: _, _, h => by simp [chkC] at h
  | some _, _, _, _, [], _, h => by simp [chkC] at h
  | some _, _, _, _, _ :: _ :: _, _, h => by simp [chkC] at h
theorem sT : ∀ (e : E) {sc : Scope} {fn : Str → Bool} {X : Cx} {ex : Expr}, Stat K G C N sc fn X → chkT G N e sc ex = true → PT X ex (tT K C e)
  | .not a, sc, fn, X, ex, st, h => by
    match ex, h with
    | .UnaryOp .Not x p, h =>
      simp only [chkT] at h
      exact t_not st (sT a st h)
  | .and es, sc, fn, X, ex, st, h => by
    match ex, h with
    | .BoolOp .And xs p, h =>
      simp only [chkT, Bool.and_eq_true, Bool.not_eq_true'] at h
      refine pt_imp ((sTs es st h.2).an (by rintro rfl; simp at h) _).pt fun σ H Q ⟨ρ, s, hρ, hs, q⟩ => ⟨ρ, s, hρ, hs, ?_⟩
      simpa only [wpT] using q
  | .or es, sc, fn, X, ex, st, h => by
    match ex, h with
    | .BoolOp .Or xs p, h =>
      simp only [chkT, Bool.and_eq_true, Bool.not_eq_true'] at h
      refine pt_imp ((sTs es st h.2).or (by rintro rfl; simp at h) _).pt fun σ H Q ⟨ρ, s, hρ, hs, q⟩ => ⟨ρ, s, hρ, hs, ?_⟩
      simpa only [wpT] using q
  | .cmp op a b, sc, fn, X, ex, st, h => by
    match ex, h with
    | .Compare x [o] [y] p, h =>
      simp only [chkT, Bool.and_eq_true, decide_eq_true_eq, Bool.not_eq_true'] at h
      obtain ⟨⟨⟨rfl, h1⟩, h2⟩, h3⟩ := h
      exact t_cmp st h1 (sE a st h2) (sE b st h3)
  | .chain o1 o2 a b c, sc, fn, X, ex, st, h => by
    match ex, h with
    | .Compare x [o, o'] [y, z] p, h =>
      simp only [chkT, Bool.and_eq_true, decide_eq_true_eq, Bool.not_eq_true'] at h
      obtain ⟨⟨⟨⟨⟨rfl, rfl⟩, h1⟩, h2⟩, h3⟩, h4⟩ := h
      exact t_chain st h1 (sE a st h2) (sE b st h3) (sE c st h4)
  | .isN n a, sc, fn, X, ex, st, h => by
    match ex, h with
    | .Compare x [o] [.Constant .none k p2] p, h =>
      simp only [chkT, Bool.and_eq_true, decide_eq_true_eq] at h
      obtain ⟨rfl, h1⟩ := h
      exact t_isN st (sE a st h1)
  | .val e, sc, fn, X, ex, st, h => by
    simp only [chkT, Bool.and_eq_true] at h
    exact t_val st h.1 (sE e st h.2)
  | .var _, _, _, _, ex, _, h => by simp [chkT] at h
  | .int _, _, _, _, ex, _, h => by simp [chkT] at h
  | .str _, _, _, _, ex, _, h => by simp [chkT] at h
  | .bl _, _, _, _, ex, _, h => by simp [chkT] at h
  | .non, _, _, _, ex, _, h => by simp [chkT] at h
  | .tup _, _, _, _, ex, _, h => by simp [chkT] at h
  | .lst _, _, _, _, ex, _, h => by simp [chkT] at h
  | .dic .., _, _, _, ex, _, h => by simp [chkT] at h
  | .bin .., _, _, _, ex, _, h => by simp [chkT] at h
  | .neg .., _, _, _, ex, _, h => by simp [chkT] at h
  | .ife .., _, _, _, ex, _, h => by simp [chkT] at h
  | .call .., _, _, _, ex, _, h => by simp [chkT] at h
  | .bi .., _, _, _, ex, _, h => by simp [chkT] at h
  | .mt .., _, _, _, ex, _, h => by simp [chkT] at h
  | .ix .., _, _, _, ex, _, h => by simp [chkT] at h
  | .sl .., _, _, _, ex, _, h => by simp [chkT] at h
  | .rng .., _, _, _, ex, _, h => by simp [chkT] at h
  | .zip .., _, _, _, ex, _, h => by simp [chkT] at h
  | .rev .., _, _, _, ex, _, h => by simp [chkT] at h
  | .itm .., _, _, _, ex, _, h => by simp [chkT] at h
  | .vls .., _, _, _, ex, _, h => by simp [chkT] at h
  | .comp .., _, _, _, ex, _, h => by simp [chkT] at h
  | .comp2 .., _, _, _, ex, _, h => by simp [chkT] at h
theorem sTs : ∀ (es : List E) {sc : Scope} {fn : Str → Bool} {X : Cx} {xs : List Expr}, Stat K G C N sc fn X → chkTs G N es sc xs = true → TsOk K C X es xs
  | [], _, _, _, [], _, _ => ts_nil
  | e :: es, sc, fn, X, x :: xs, st, h => by
    simp only [chkTs, Bool.and_eq_true] at h
    exact ts_cons st (sT e st h.1) (sTs es st h.2) (chkTs_len h.2)
  | [], _, _, _, _ :: _, _, h => by simp [chkTs] at h
  | _ :: _, _, _, _, [], _, h => by simp [chkTs] at h
theorem sI : ∀ (e : E) {sc : Scope} {fn : Str → Bool} {X : Cx} {tg ex : Expr}, Stat K G C N sc fn X → chkI G N e sc ex = true → PI X tg ex (tI K C e) ∧ ∀ x, foldedSetIterable ex X.env x = pure x
  | .rng es, sc, fn, X, tg, ex, st, h => by
    match ex, h with
    | .Call (.Name x p1) ys [] p, h =>
      simp only [chkI, Bool.and_eq_true, decide_eq_true_eq] at h
      obtain ⟨⟨⟨⟨⟨⟨rfl, h1⟩, h2⟩, h3⟩, h4⟩, h5⟩, h6⟩ := h
      exact ⟨pi_rng st h1 h2 h3 h4 h5 (chkEs_len h6) (sEs es st h3 h6).pa, fun x => rfl⟩
  | .val e, sc, fn, X, tg, ex, st, h => by
    simp only [chkI, Bool.and_eq_true] at h
    exact ⟨pi_any st (sE e st h.2), fold_ok h.1⟩
  | .not a, _, _, _, _, ex, _, h => by simp [chkI] at h
  | .and _, _, _, _, _, ex, _, h => by simp [chkI] at h
  | .or _, _, _, _, _, ex, _, h => by simp [chkI] at h
  | .cmp .., _, _, _, _, ex, _, h => by simp [chkI] at h
  | .chain .., _, _, _, _, ex, _, h => by simp [chkI] at h
  | .isN .., _, _, _, _, ex, _, h => by simp [chkI] at h
  | .var _, _, _, _, _, ex, _, h => by simp [chkI] at h
  | .int _, _, _, _, _, ex, _, h => by simp [chkI] at h
  | .str _, _, _, _, _, ex, _, h => by simp [chkI] at h
  | .bl _, _, _, _, _, ex, _, h => by simp [chkI] at h
  | .non, _, _, _, _, ex, _, h => by simp [chkI] at h
  | .tup _, _, _, _, _, ex, _, h => by simp [chkI] at h
  | .lst _, _, _, _, _, ex, _, h => by simp [chkI] at h
  | .dic .., _, _, _, _, ex, _, h => by simp [chkI] at h
  | .bin .., _, _, _, _, ex, _, h => by simp [chkI] at h
  | .neg .., _, _, _, _, ex, _, h => by simp [chkI] at h
  | .ife .., _, _, _, _, ex, _, h => by simp [chkI] at h
  | .call .., _, _, _, _, ex, _, h => by simp [chkI] at h
  | .bi .., _, _, _, _, ex, _, h => by simp [chkI] at h
  | .mt .., _, _, _, _, ex, _, h => by simp [chkI] at h
  | .ix .., _, _, _, _, ex, _, h => by simp [chkI] at h
  | .sl .., _, _, _, _, ex, _, h => by simp [chkI] at h
  | .zip .., _, _, _, _, ex, _, h => by simp [chkI] at h
  | .rev .., _, _, _, _, ex, _, h => by simp [chkI] at h
  | .itm .., _, _, _, _, ex, _, h => by simp [chkI] at h
  | .vls .., _, _, _, _, ex, _, h => by simp [chkI] at h
  | .comp .., _, _, _, _, ex, _, h => by simp [chkI] at h
  | .comp2 .., _, _, _, _, ex, _, h => by simp [chkI] at h
end
end PL
end

section
set_option Elab.async false
set_option linter.all false
set_option maxRecDepth 100000
set_option maxHeartbeats 4000000
namespace PL
open PySem PySem.Spec PyProof.Rows L2

/-! ## statements: what is checked -/
mutual
def chkTg (G : Gs) (N : List Str) (sc : Scope) (fn : Str → Bool) : Tg → Expr → Bool
  | .name i, .Name x _ => decide (N[i]? = some x) && locB sc fn x
  | .tup ts, .Tuple xs _ _ => chkTgs G N sc fn ts xs
  | .sub o i, .Subscript x y _ => noSlice y && chkE G N o sc x && chkE G N i sc y
  | _, _ => false
def chkTgs (G : Gs) (N : List Str) (sc : Scope) (fn : Str → Bool) : List Tg → List Expr → Bool
  | [], [] => true
  | t :: ts, x :: xs => noStar x && chkTg G N sc fn t x && chkTgs G N sc fn ts xs
  | _, _ => false
end
def notComp : Expr → Bool
  | .ListComp .. => false
  | .SetComp .. => false
  | .DictComp .. => false
  | _ => true
def starB : Expr → Bool
  | .Starred .. => true
  | _ => false
def nmOf (look : Str → Option NameKind) (l : Nat) : Expr → Option Str
  | .Name id pos => if (look id == some NameKind.local && pos.line == l) = true then some id else none
  | _ => none
def nmAll (look : Str → Option NameKind) (ts : List Expr) : List Str := ts.filterMap (nmOf look ((ts.head?.map (·.pos.line)).getD 0))
theorem sw_eq {env : PySem.Env} {ts vs : List Expr} {k p k2 p2} : swappedStores [.Tuple ts k p] (.Tuple vs k2 p2) env =
    (if (!(ts.length == 2 || ts.length == 3) || vs.length != ts.length || env.blockKind != ScopeKind.function) = true then pure none
     else if vs.any starB = true then pure none
     else if ((nmAll env.kindOf ts).length != ts.length || (nmAll env.kindOf ts).eraseDups.length != (nmAll env.kindOf ts).length) = true then pure none
     else if vs.all (foldedForSure 8) = true then pure none
     else if vs.all (constantsAlone 8) = true then (do
       unsupported "assign.tuple-of-constant-expressions:order-of-the-stores"
       pure (some (nmAll env.kindOf ts)))
     else pure (some (nmAll env.kindOf ts))) := by
  unfold swappedStores
  simp only [pure_bind]
  rfl
/-- what swappedStores says -/
def swapR (sc : Scope) : Expr → Expr → Option (Option (List Str))
  | .Tuple ts _ _, .Tuple vs _ _ =>
    if (!(ts.length == 2 || ts.length == 3) || vs.length != ts.length) = true then some none
    else if vs.any starB = true then some none
    else if ((nmAll (fun x => sc.names.lookup x) ts).length != ts.length || (nmAll (fun x => sc.names.lookup x) ts).eraseDups.length != (nmAll (fun x => sc.names.lookup x) ts).length) = true then some none
    else if vs.all (foldedForSure 8) = true then some none
    else if vs.all (constantsAlone 8) = true then none
    else some (some (nmAll (fun x => sc.names.lookup x) ts))
  | .List .., .Tuple .. => none
  | _, _ => some none
theorem swapR_ok {env : PySem.Env} {t v : Expr} {sc : Scope} (hs : env.scope = sc) (hk : sc.kind = .function) {r : Option (List Str)} (h : swapR sc t v = some r) : swappedStores [t] v env = pure r := by
  subst hs
  have hb : (env.blockKind != ScopeKind.function) = false := by unfold Env.blockKind; rw [hk]; rfl
  have hkd : env.kindOf = fun x => env.scope.names.lookup x := by funext x; rfl
  unfold swapR at h
  split at h
  · rw [sw_eq, hb, Bool.or_false, hkd]
    split at h
    · next c => cases h; rw [if_pos c]
    · next c =>
      rw [if_neg c]
      split at h
      · next c => cases h; rw [if_pos c]
      · next c =>
        rw [if_neg c]
        split at h
        · next c => cases h; rw [if_pos c]
        · next c =>
          rw [if_neg c]
          split at h
          · next c => cases h; rw [if_pos c]
          · next c =>
            rw [if_neg c]
            split at h
            · cases h
            · next c => cases h; rw [if_neg c]
  · cases h
  · next h1 h2 =>
    cases h
    cases t <;> first
      | rfl
      | (cases v <;> first | rfl | exact (h1 _ _ _ _ _ _ rfl rfl).elim | exact (h2 _ _ _ _ _ rfl rfl).elim)
/-- what swapsWith says of a list comprehension's target -/
def swC (sc : Scope) : Expr → Expr → Bool
  | .Name y py, .ListComp _ _ scope p2 => decide (sc.names.lookup y = some .local) && (py.line == p2.line) && !(scope.names.any fun (n, k) => n == y && (k == .local || k == .cell))
  | _, _ => false
def setDict : Expr → Bool
  | .SetComp .. => true
  | .DictComp .. => true
  | _ => false
/-- one or more names told in parallel -/
def parB (N : List Str) (sc : Scope) : List Tg → List Expr → Bool
  | [.name i, .name j], [.Name x _, .Name y _] => decide (N[i]? = some x) && decide (N[j]? = some y) && decide (i ≠ j) && decide (sc.names.lookup x = some .local) && decide (sc.names.lookup y = some .local)
  | [.name i, .name j, .name l], [.Name x _, .Name y _, .Name z _] => decide (N[i]? = some x) && decide (N[j]? = some y) && decide (N[l]? = some z) && decide (i ≠ j) && decide (i ≠ l) && decide (j ≠ l) &&
      decide (sc.names.lookup x = some .local) && decide (sc.names.lookup y = some .local) && decide (sc.names.lookup z = some .local)
  | _, _ => false
def nmsOf (ts : List Expr) : List Str := ts.filterMap fun | .Name id _ => some id | _ => none
mutual
def chkS (G : Gs) (N : List Str) (sc : Scope) (fn : Str → Bool) : St → Stmt → Bool
  | .asg tg e, .Assign [t] v _ =>
    if swC sc t v then (match tg, e, t, v with
      | .name i, .comp el ctg ctup it cond own, .Name y _, .ListComp e' [⟨t', i', ifs, k⟩] scope _ => decide (k = 0) && decide (N[i]? = some y) && (match ownB N own scope with
          | some ow => blkC N sc scope ow
          | none => false) && ctg.all own.contains && tgC N (relS scope sc) (fnB scope) ctg ctup t' && chkI G N it sc i' && chkC G N cond (relS scope sc) ifs && chkE G N el (relS scope sc) e'
      | _, _, _, _ => false)
    else if setDict v then false
    else match swapR sc t v with
      | some none => noStar t && chkTg G N sc fn tg t && chkE G N e sc v
      | some (some ns) => (match tg, e, t, v with
          | .tup tgs, .tup es, .Tuple ts _ _, .Tuple vs _ _ => parB N sc tgs ts && decide (ns = nmsOf ts) && decide (es.length = tgs.length) && vs.all noStar && chkEs G N es sc vs
          | _, _, _, _ => false)
      | none => false
  | .aug i op e, .AugAssign (.Name x _) o v _ => decide (N[i]? = some x) && locB sc fn x && decide (opOf op = o) && decide (op = .add ∨ op = .sub) && chkE G N e sc v
  | .augS o i op e, .AugAssign (.Subscript x y _) q v _ => noSlice y && decide (opOf op = q) && decide (op = .add ∨ op = .sub) && chkE G N o sc x && chkE G N i sc y && chkE G N e sc v
  | .ife c a b, .If z x y _ => chkT G N c sc z && chkSs G N sc fn a x && chkSs G N sc fn b y
  | .for tg it body, .For t i b [] _ => chkTg G N sc fn tg t && chkI G N it sc i && chkSs G N sc fn body b
  | .while c body, .While z b [] _ => chkT G N c sc z && chkSs G N sc fn body b
  | .ret e, .Return (some x) _ => chkE G N e sc x
  | .retN, .Return none _ => true
  | .expr e, .Expr x _ => notComp x && chkE G N e sc x
  | .pass, .Pass _ => true
  | .pass, .Expr (.Constant (.str _) _ _) _ => true
  | .brk, .Break _ => true
  | .cont, .Continue _ => true
  | _, _ => false
def chkSs (G : Gs) (N : List Str) (sc : Scope) (fn : Str → Bool) : List St → List Stmt → Bool
  | [], [] => true
  | s :: ss, x :: xs => chkS G N sc fn s x && chkSs G N sc fn ss xs
  | _, _ => false
end

/-! ## targets -/
def gW (K : Kc) (C : Cs) (tg : Tg) : TG := fun v σ H Q => ∃ ρ s d, RepE K H ρ σ ∧ RepS K H s ∧ RepD K H d v ∧ wpTg C tg d ρ s fun ρ' s' => ∀ σ' H', Keep K H H' → RepE K H' ρ' σ' → RepS K H' s' → Q σ' H'
def gWs (K : Kc) (C : Cs) (tgs : List Tg) : TGs := fun vs σ H Q => ∃ ρ s ds, RepE K H ρ σ ∧ RepS K H s ∧ RepDs K H ds vs ∧ wpTgs C tgs ds ρ s fun ρ' s' => ∀ σ' H', Keep K H H' → RepE K H' ρ' σ' → RepS K H' s' → Q σ' H'
theorem pg_imp {X : Cx} {e : Expr} {t t' : TG} (h : PG X e t) (f : ∀ v σ H Q, t' v σ H Q → t v σ H Q) : PG X e t' := ⟨fun pins s σ H v u Q I r q => h.run pins s σ H v u Q I r (f v σ H Q q)⟩
theorem pgs_imp {X : Cx} {e : List Expr} {t t' : TGs} (h : PGs X e t) (f : ∀ v σ H Q, t' v σ H Q → t v σ H Q) : PGs X e t' := ⟨fun pins s σ H v u Q I r q => h.run pins s σ H v u Q I r (f v σ H Q q)⟩
theorem ps_imp {X : Cx} {e : Stmt} {t t' : TS} (h : PS X e t) (f : ∀ D σ H, t' D σ H → t D σ H) : PS X e t' := ⟨fun pins s σ H D I q => h.run pins s σ H D I (f D σ H q)⟩
theorem pss_imp {X : Cx} {e : List Stmt} {t t' : TS} (h : PSs X e t) (f : ∀ D σ H, t' D σ H → t D σ H) : PSs X e t' := ⟨fun pins s σ H D I q => h.run pins s σ H D I (f D σ H q)⟩
theorem asg_star {x : Expr} {xs : List Expr} {env : PySem.Env} (h : noStar x = true) : assignEach (x :: xs) env = (false, assign x env) :: assignEach xs env := by
  cases x <;> first | rfl | (simp [noStar] at h)
variable {K : Kc} {G : Gs} {C : Cs} {N : List Str}
mutual
theorem sG : ∀ (tg : Tg) {sc : Scope} {fn : Str → Bool} {X : Cx} {x : Expr}, Stat K G C N sc fn X → chkTg G N sc fn tg x = true → PG X x (gW K C tg)
  | .name i, sc, fn, X, x, st, h => by
    rw [chkTg.eq_def] at h
    split at h
    case h_1 hq =>
      cases hq
      simp only [Bool.and_eq_true, decide_eq_true_eq] at h
      refine pg_imp (pg_nm st h.1 h.2) fun v σ H Q ⟨ρ, s, d, hρ, hs, r, q⟩ => ?_
      simp only [wpTg] at q
      exact q _ H Keep.refl (hρ.set r) hs
    all_goals first
      | (next hq => cases hq; done)
      | cases h
  | .tup ts, sc, fn, X, x, st, h => by
    rw [chkTg.eq_def] at h
    split at h
    case h_2 hq =>
      cases hq
      obtain ⟨h1, h2, h3⟩ := sGs ts st h
      refine pg_imp (pg_tup st.calm h1 h2 h3) fun v σ H Q ⟨ρ, s, d, hρ, hs, r, q⟩ => ?_
      simp only [wpTg] at q
      split at q
      · next ds =>
        obtain ⟨a, vs, rfl, sq, rr⟩ := r.tupI
        exact ⟨a, vs, rfl, by rw [← st.kk]; exact sq, by rw [← rr.length]; exact q.1, ρ, s, ds, hρ, hs, rr, q.2⟩
      · exact q.elim
    all_goals first
      | (next hq => cases hq; done)
      | cases h
  | .sub o i, sc, fn, X, x, st, h => by
    rw [chkTg.eq_def] at h
    split at h
    case h_3 y _ hq =>
      cases hq
      simp only [Bool.and_eq_true] at h
      refine pg_imp (pg_sub (sE o st h.1.2) (sE i st h.2) (set_ok st.kk st.un) fun v => ?_) fun v σ H Q ⟨ρ, s, d, hρ, hs, r, q⟩ => ?_
      · have h0 := h.1.1
        cases y <;> first | rfl | (simp [noSlice] at h0)
      · simp only [wpTg] at q
        refine tE.mk st.mono hρ hs q fun d1 s1 v1 H1 k1 r1 hs1 q1 => tE.mk st.mono (hρ.keep k1) hs1 q1 fun d2 s2 v2 H2 k2 r2 hs2 q2 => ?_
        refine ⟨d1, d2, d, s2, RepD.keep k2 _ _ r1, r2, RepD.keep (k1.trans k2) _ _ r, hs2, wpSet_mono (fun s3 q3 H3 k3 hs3 => ?_) q2⟩
        exact q3 σ H3 ((k1.trans k2).trans k3) (hρ.keep ((k1.trans k2).trans k3)) hs3
    all_goals first
      | (next hq => cases hq; done)
      | cases h
theorem sGs : ∀ (tgs : List Tg) {sc : Scope} {fn : Str → Bool} {X : Cx} {xs : List Expr}, Stat K G C N sc fn X → chkTgs G N sc fn tgs xs = true → PGs X xs (gWs K C tgs) ∧ (assignEach xs X.env).length = tgs.length ∧ (assignEach xs X.env).findIdx? (·.1) = none
  | [], _, _, _, [], st, _ => by
    refine ⟨pgs_imp pgs_nil fun vs σ H Q ⟨ρ, s, ds, hρ, hs, r, q⟩ => ?_, rfl, rfl⟩
    cases ds with
    | nil =>
      cases r
      simp only [wpTgs] at q
      exact ⟨rfl, q σ H Keep.refl hρ hs⟩
    | cons d ds => simp only [wpTgs] at q
  | tg :: tgs, sc, fn, X, x :: xs, st, h => by
    simp only [chkTgs, Bool.and_eq_true] at h
    obtain ⟨h1, h2, h3⟩ := sGs tgs st h.2
    refine ⟨pgs_imp (pgs_cons (sG tg st h.1.2) h1 (by rw [asg_star h.1.1]; rfl)) fun vs σ H Q ⟨ρ, s, ds, hρ, hs, r, q⟩ => ?_, ?_, ?_⟩
    · cases ds with
      | nil => simp only [wpTgs] at q
      | cons d ds =>
        simp only [RepDs] at r
        obtain ⟨v, vr, rfl, r1, r2⟩ := r
        simp only [wpTgs] at q
        refine ⟨v, vr, rfl, ρ, s, d, hρ, hs, r1, wpTg_mono st.mono tg (fun ρ1 s1 q1 σ1 H1 k1 hρ1 hs1 => ?_) q⟩
        exact ⟨ρ1, s1, ds, hρ1, hs1, RepDs.keep k1 _ _ r2, wpTgs_mono st.mono tgs (fun ρ2 s2 q2 σ2 H2 k2 a b => q2 σ2 H2 (k1.trans k2) a b) q1⟩
    · rw [asg_star h.1.1, List.length_cons, h2]; rfl
    · rw [asg_star h.1.1, List.findIdx?_cons, h3]; rfl
  | [], _, _, _, _ :: _, _, h => by simp [chkTgs] at h
  | _ :: _, _, _, _, [], _, h => by simp [chkTgs] at h
end
end PL
end

section
set_option Elab.async false
set_option linter.all false
set_option maxRecDepth 100000
set_option maxHeartbeats 4000000
namespace PL
open PySem PySem.Spec PyProof.Rows L2

/-! ## statements -/
def dsOf (K : Kc) (H : Hp) (D : Ends) : Ds :=
  ⟨fun ρ' s' => ∀ σ' H', Keep K H H' → RepE K H' ρ' σ' → RepS K H' s' → D.nx σ' H', fun d s' => ∀ v H', Keep K H H' → RepD K H' d v → RepS K H' s' → D.rt v H',
   fun ρ' s' => ∀ σ' H', Keep K H H' → RepE K H' ρ' σ' → RepS K H' s' → D.bk σ' H', fun ρ' s' => ∀ σ' H', Keep K H H' → RepE K H' ρ' σ' → RepS K H' s' → D.ct σ' H'⟩
theorem dsOf.at {K : Kc} {H H1 : Hp} {D : Ends} (k : Keep K H H1) : DsLe (dsOf K H D) (dsOf K H1 D) :=
  ⟨fun ρ s h σ' H' k' => h σ' H' (k.trans k'), fun d s h v H' k' => h v H' (k.trans k'), fun ρ s h σ' H' k' => h σ' H' (k.trans k'), fun ρ s h σ' H' k' => h σ' H' (k.trans k')⟩
theorem DsLe.refl {D : Ds} : DsLe D D := ⟨fun _ _ h => h, fun _ _ h => h, fun _ _ h => h, fun _ _ h => h⟩
def tS (K : Kc) (C : Cs) (x : PL.St) : TS := fun D σ H => ∃ ρ s, RepE K H ρ σ ∧ RepS K H s ∧ wpS C x (dsOf K H D) ρ s
def tSs (K : Kc) (C : Cs) (x : List PL.St) : TS := fun D σ H => ∃ ρ s, RepE K H ρ σ ∧ RepS K H s ∧ wpSs C x (dsOf K H D) ρ s
section
variable {X : Cx} {K : Kc} {G : Gs} {C : Cs} {N : List Str} {sc : Scope} {fn : Str → Bool}
theorem aug_ok (op : Op) (h : op = .add ∨ op = .sub) : PIp X (opOf op) (rV K (wpAug op)) := by
  rcases h with rfl | rfl
  · intro pins s σ H x y v u Q I rx ry ⟨d, e, t, rd, re, hs, h⟩
    unfold wpAug at h
    split at h
    · cases rd; cases re
      exact ip_add pins s σ H _ _ v u Q I rx ry ⟨_, _, rfl, rfl, h.int hs⟩
    · next e => cases e
    · exact h.elim
  · intro pins s σ H x y v u Q I rx ry ⟨d, e, t, rd, re, hs, h⟩
    unfold wpAug at h
    split at h
    · next e => cases e
    · cases rd; cases re
      exact ip_sub pins s σ H _ _ v u Q I rx ry ⟨_, _, rfl, rfl, h.int hs⟩
    · exact h.elim
theorem sw_no {t : Option Expr} {v : Expr} {l : Nat} {env : PySem.Env} (h : notComp v = true) : swapsWith v t l env = pure false := by
  cases v <;> first | rfl | (simp [notComp] at h)
/-- a value that is no comprehension told straight -/
theorem sw_asg (st : Stat K G C N sc fn X) {t v : Expr} {l : Nat} (h1 : ¬ swC sc t v = true) (h2 : ¬ setDict v = true) : swapsWithSole [t] v l X.env = pure false := by
  show swapsWith v (some t) l X.env = pure false
  by_cases hn : notComp v = true
  · exact sw_no hn
  · cases v <;> first | exact absurd rfl hn | exact absurd rfl h2 | skip
    next e gs scope p2 =>
    cases t <;> first | rfl | skip
    next y py =>
    have hk : X.env.blockKind = .function := by unfold Env.blockKind; rw [st.sC, st.kind]; rfl
    have hl : X.env.kindOf y = sc.names.lookup y := by show X.env.scope.names.lookup y = _; rw [st.sC]
    unfold swapsWith
    simp only [hk, hl, Expr.pos]
    simp only [swC, Bool.and_eq_true, decide_eq_true_eq, not_and] at h1
    have : ((sc.names.lookup y == some .local) && (py.line == p2.line) && !(scope.names.any fun (n, k) => n == y && (k == .local || k == .cell))) = false := by
      rw [Bool.and_eq_false_iff, Bool.and_eq_false_iff]
      by_cases a1 : sc.names.lookup y = some .local
      · by_cases a2 : (py.line == p2.line) = true
        · have := h1 ⟨a1, a2⟩
          exact .inr (by simpa only [Bool.not_eq_true] using this)
        · exact .inl (.inr (by simpa using a2))
      · exact .inl (.inl (by simpa using a1))
    show pure ((ScopeKind.function == ScopeKind.function && (sc.names.lookup y == some .local) && (py.line == p2.line)) && !(scope.names.any fun (n, k) => n == y && (k == .local || k == .cell))) = pure false
    rw [show (ScopeKind.function == ScopeKind.function) = true from rfl, Bool.true_and, this]
theorem s_asg (st : Stat K G C N sc fn X) {tg : Tg} {e : E} {t v : Expr} {p : Pos} (hg : PG X t (gW K C tg)) (he : PE X v (tE K C e)) (h1 : ¬ swC sc t v = true) (h2 : ¬ setDict v = true) (h3 : swapR sc t v = some none) (h4 : noStar t = true) : PS X (.Assign [t] v p) (tS K C (.asg tg e)) :=
  ps_imp (ps_asg he hg (sw_asg st h1 h2) (swapR_ok st.sC st.kind h3) (by rw [asg_star h4]; rfl)) fun D σ H ⟨ρ, s, hρ, hs, h⟩ => by
    simp only [wpS] at h
    refine tE.mk st.mono hρ hs h fun d s1 v1 H1 k1 r1 hs1 h1 => ?_
    exact ⟨ρ, s1, d, hρ.keep k1, hs1, r1, wpTg_mono st.mono tg (fun ρ2 s2 h2 σ' H' k' a b => h2 σ' H' (k1.trans k') a b) h1⟩
theorem s_aug (st : Stat K G C N sc fn X) {i : Nat} {op : Op} {e : E} {x : Str} {v : Expr} {p p2 : Pos} (hop : op = .add ∨ op = .sub) (h1 : N[i]? = some x) (h2 : locB sc fn x = true) (he : PE X v (tE K C e)) : PS X (.AugAssign (.Name x p2) (opOf op) v p) (tS K C (.aug i op e)) := by
  obtain ⟨l, f⟩ := loc_of h2
  refine ps_imp (ps_aug (by rw [st.nN]; exact st.nd) (by rw [st.nN]; exact h1) (by rw [st.sC]; exact l) he (aug_ok (K := K) op hop) (by rw [st.fN, st.sC]; exact f)) fun D σ H ⟨ρ, s, hρ, hs, h⟩ => ?_
  simp only [wpS] at h
  split at h
  · next d e0 =>
    obtain ⟨v0, e1, r0⟩ := hρ.2 i d (getD_some e0)
    refine ⟨v0, e1, tE.mk st.mono hρ hs h fun d1 s1 v1 H1 k1 r1 hs1 q1 => ?_⟩
    refine ⟨d, d1, s1, RepD.keep k1 _ _ r0, r1, hs1, wpAug_mono (fun d2 s2 q2 v2 H2 k2 r2 hs2 => ?_) q1⟩
    exact q2 _ H2 (k1.trans k2) ((hρ.keep (k1.trans k2)).set r2) hs2
  · exact h.elim
theorem s_augS (st : Stat K G C N sc fn X) {o i e : E} {op : Op} {x y v : Expr} {p p2 : Pos} (hop : op = .add ∨ op = .sub) (hn : noSlice y = true) (ho : PE X x (tE K C o)) (hi : PE X y (tE K C i)) (he : PE X v (tE K C e)) : PS X (.AugAssign (.Subscript x y p2) (opOf op) v p) (tS K C (.augS o i op e)) := by
  refine ps_imp (ps_augS ho hi (get_ok st.kk st.un) he (aug_ok (K := K) op hop) (set_ok st.kk st.un) (fun ov iv new => ?_)) fun D σ H ⟨ρ, s, hρ, hs, h⟩ => ?_
  · cases y <;> first | rfl | (simp [noSlice] at hn)
  · simp only [wpS] at h
    refine tE.mk st.mono hρ hs h fun d1 s1 v1 H1 k1 r1 hs1 q1 => tE.mk st.mono (hρ.keep k1) hs1 q1 fun d2 s2 v2 H2 k2 r2 hs2 q2 => ?_
    refine ⟨d1, d2, s2, RepD.keep k2 _ _ r1, r2, hs2, wpGet_mono (fun d3 s3 q3 v3 H3 k3 r3 hs3 => ?_) q2⟩
    have kk := (k1.trans k2).trans k3
    refine tE.mk st.mono (hρ.keep kk) hs3 q3 fun d4 s4 v4 H4 k4 r4 hs4 q4 => ?_
    refine ⟨d3, d4, s4, RepD.keep k4 _ _ r3, r4, hs4, wpAug_mono (fun d5 s5 q5 v5 H5 k5 r5 hs5 => ?_) q4⟩
    have k35 := (k3.trans k4).trans k5
    refine ⟨d1, d2, d5, s5, RepD.keep (k2.trans k35) _ _ r1, RepD.keep k35 _ _ r2, r5, hs5, wpSet_mono (fun s6 q6 H6 k6 hs6 => ?_) q5⟩
    have k06 := ((kk.trans k4).trans k5).trans k6
    exact q6 σ H6 k06 (hρ.keep k06) hs6
theorem s_par (st : Stat K G C N sc fn X) {tgs : List Tg} {es : List E} {ts vs : List Expr} {k k2 : Nat} {p p2 p3 : Pos} {ns : List Str} (hsw : swapR sc (.Tuple ts k p2) (.Tuple vs k2 p3) = some (some ns)) (hb : parB N sc tgs ts = true) (hns : ns = nmsOf ts) (hl : es.length = tgs.length) (hlv : es.length = vs.length) (ha : PA X vs (tEs K C es)) :
    PS X (.Assign [.Tuple ts k p2] (.Tuple vs k2 p3) p) (tS K C (.asg (.tup tgs) (.tup es))) := by
  have hw := swapR_ok st.sC st.kind hsw
  have nd : X.N.Nodup := by rw [st.nN]; exact st.nd
  unfold parB at hb
  split at hb
  · next i j x px y py =>
    simp only [Bool.and_eq_true, decide_eq_true_eq] at hb
    obtain ⟨⟨⟨⟨h1, h2⟩, h3⟩, h4⟩, h5⟩ := hb
    match vs, hlv with
    | [a, b], hlv =>
      subst hns
      refine ps_imp (ps_par st.calm nd (by rw [st.nN]; exact h1) (by rw [st.nN]; exact h2) h3 (by rw [st.sC]; exact h4) (by rw [st.sC]; exact h5) ha hw rfl) fun D σ H ⟨ρ, s, hρ, hs, h⟩ => ?_
      simp only [wpS, wpE] at h
      refine tEs.mk st.mono hρ hs h fun ds s1 us H1 k1 r1 hs1 q => ?_
      simp only [wpTg] at q
      obtain ⟨q0, q⟩ := q
      match ds, q with
      | [d1, d2], q =>
        obtain ⟨u1, u2, rfl, r2, r3⟩ := r1.two_inv
        simp only [wpTgs, wpTg] at q
        exact ⟨u1, u2, rfl, q _ H1 k1 (((hρ.keep k1).set r2).set r3) hs1⟩
    | [], hlv => simp [hl] at hlv
    | [_], hlv => simp [hl] at hlv
    | _ :: _ :: _ :: _, hlv => simp [hl] at hlv
  · next i j l x px y py z pz =>
    simp only [Bool.and_eq_true, decide_eq_true_eq] at hb
    obtain ⟨⟨⟨⟨⟨⟨⟨⟨h1, h2⟩, h3⟩, h4⟩, h5⟩, h6⟩, h7⟩, h8⟩, h9⟩ := hb
    match vs, hlv with
    | [a, b, c], hlv =>
      subst hns
      refine ps_imp (ps_par3 st.calm nd (by rw [st.nN]; exact h1) (by rw [st.nN]; exact h2) (by rw [st.nN]; exact h3) h4 h5 h6 (by rw [st.sC]; exact h7) (by rw [st.sC]; exact h8) (by rw [st.sC]; exact h9) ha hw rfl) fun D σ H ⟨ρ, s, hρ, hs, h⟩ => ?_
      simp only [wpS, wpE] at h
      refine tEs.mk st.mono hρ hs h fun ds s1 us H1 k1 r1 hs1 q => ?_
      simp only [wpTg] at q
      obtain ⟨q0, q⟩ := q
      match ds, q with
      | [d1, d2, d3], q =>
        simp only [RepDs] at r1
        obtain ⟨u1, t1, rfl, r2, u2, t2, rfl, r3, u3, t3, rfl, r4, rfl⟩ := r1
        simp only [wpTgs, wpTg] at q
        exact ⟨u1, u2, u3, rfl, q _ H1 k1 ((((hρ.keep k1).set r2).set r3).set r4) hs1⟩
    | [], hlv => simp [hl] at hlv
    | [_], hlv => simp [hl] at hlv
    | [_, _], hlv => simp [hl] at hlv
    | _ :: _ :: _ :: _ :: _, hlv => simp [hl] at hlv
  · cases hb
theorem s_comp (st : Stat K G C N sc fn X) {el it : E} {cond : Option E} {tg own : List Nat} {tup : Bool} {e t i : Expr} {ifs : List Expr} {scope : Scope} {ow : List (Str × Nat)} {p p2 py : Pos} {y : Str} {j : Nat} (hsw : swC sc (.Name y py) (.ListComp e [⟨t, i, ifs, 0⟩] scope p2) = true) (hj : N[j]? = some y)
    (hb : blkC N sc scope ow = true) (how : ow.map (·.2) = own) (hsub : ∀ i ∈ tg, i ∈ own) (htg : tgC N (relS scope sc) (fnB scope) tg tup t = true) (hi : PI X t i (tI K C it)) (hfs : ∀ x, foldedSetIterable i X.env x = pure x)
    (hc : ∀ X', Stat K G C N (relS scope sc) (fnB scope) X' → PTs X' ifs (tC' K C cond)) (he : ∀ X', Stat K G C N (relS scope sc) (fnB scope) X' → PE X' e (tE K C el)) : PS X (.Assign [.Name y py] (.ListComp e [⟨t, i, ifs, 0⟩] scope p2) p) (tS K C (.asg (.name j) (.comp el tg tup it cond own))) := by
  have ok : BlkOk X.N X.env.scope scope ow := by rw [st.nN, st.sC]; exact blkOk_by hb
  simp only [swC, Bool.and_eq_true, decide_eq_true_eq, Bool.not_eq_true'] at hsw
  obtain ⟨⟨a1, a2⟩, a3⟩ := hsw
  refine ps_imp (ps_setLc (i := j) (g := gOf X.K tg tup) st.calm (by rw [st.nN]; exact st.nd) (by rw [st.nN]; exact hj) (by rw [st.sC]; exact a1) (sw_true (by rw [st.sC]; exact st.kind) (by rw [st.sC]; exact a1) a2 a3) hi ok (fun s H C0 cl fp => pg_of (blk_stat st ok.kind s H C0 cl fp) htg) (fun s H C0 cl fp => hc _ (blk_stat st ok.kind s H C0 cl fp)) (fun s H C0 cl fp => he _ (blk_stat st ok.kind s H C0 cl fp)) hfs) fun D σ H h => ?_
  rw [how]
  refine lc_imp st hsub σ H _ ?_
  obtain ⟨ρ, s, hρ, hs, h⟩ := h
  simp only [wpS] at h
  refine tE.mk st.mono hρ hs h fun d s1 v1 H1 k1 r1 hs1 q => ?_
  simp only [wpTg] at q
  exact q _ H1 k1 ((hρ.keep k1).set r1) hs1
end
end PL
end

section
set_option Elab.async false
set_option linter.all false
set_option maxRecDepth 100000
set_option maxHeartbeats 4000000
namespace PL
open PySem PySem.Spec PyProof.Rows L2

section
variable {X : Cx} {K : Kc} {G : Gs} {C : Cs} {N : List Str} {sc : Scope} {fn : Str → Bool}
theorem s_ife (st : Stat K G C N sc fn X) {c : E} {a b : List PL.St} {z : Expr} {x y : List Stmt} {p : Pos} (hc : PT X z (tT K C c)) (ha : PSs X x (tSs K C a)) (hb : PSs X y (tSs K C b)) : PS X (.If z x y p) (tS K C (.ife c a b)) :=
  ps_imp (ps_if hc ha hb) fun D σ H ⟨ρ, s, hρ, hs, h⟩ => by
    simp only [wpS] at h
    refine tT.mk st.mono hρ hs h fun t s1 H1 k1 hs1 h1 => ?_
    cases t
    · rw [if_neg (by simp)] at h1 ⊢
      exact ⟨ρ, s1, hρ.keep k1, hs1, wpSs_mono st.mono b (dsOf.at k1) h1⟩
    · rw [if_pos rfl] at h1 ⊢
      exact ⟨ρ, s1, hρ.keep k1, hs1, wpSs_mono st.mono a (dsOf.at k1) h1⟩
theorem s_for (st : Stat K G C N sc fn X) {tg : Tg} {it : E} {body : List PL.St} {t i : Expr} {b : List Stmt} {p : Pos} (hg : PG X t (gW K C tg)) (hi : PI X t i (tI K C it)) (hfs : ∀ x, foldedSetIterable i X.env x = pure x) (hb : PSs X b (tSs K C body)) : PS X (.For t i b [] p) (tS K C (.for tg it body)) := by
  refine ps_imp (ps_for (by rw [st.xe]; exact PassesOwn.never) st.calm hi hg hb hfs) fun D σ H ⟨ρ, s, hρ, hs, h⟩ => ?_
  simp only [wpS] at h
  refine ⟨ρ, s, hρ, hs, wpI_mono st.mono it (fun chk xs s1 h1 J H1 k1 hs1 hJ => ?_) h⟩
  generalize hturn : (fun (x : PL.D) (ρ : Vs) (s : PL.S) (k : Vs → PL.S → Prop) => wpTg C tg x ρ s fun ρ2 s2 => wpSs C body ⟨k, (dsOf K H D).rt, (dsOf K H D).nx, k⟩ ρ2 s2) = turn at h1
  refine ⟨fun j m σ2 H2 => m = xs.length - j ∧ j ≤ xs.length ∧ ∃ ρ2 s2, Keep K H1 H2 ∧ RepE K H2 ρ2 σ2 ∧ RepS K H2 s2 ∧ forL chk turn (dsOf K H D).nx (xs.drop j) ρ2 s2, ⟨xs.length, by simp, Nat.zero_le _, ρ, s1, Keep.refl, hρ.keep k1, hs1, h1⟩, ?_⟩
  rintro j m σ2 H2 ⟨rfl, hj, ρ2, s2, k2, hρ2, hs2, hc⟩
  by_cases hlt : j < xs.length
  · have ex : xs[j]? = some xs[j] := List.getElem?_eq_getElem hlt
    rw [List.drop_eq_getElem_cons hlt] at hc
    simp only [forL] at hc
    obtain ⟨hchk, hc⟩ := hc
    obtain ⟨go, yl⟩ := hJ.go j _ H2 s2 k2 hs2 hchk ex
    refine .inr ⟨go, fun σ3 H3 => ∃ ρ3 s3, Keep K H1 H3 ∧ RepE K H3 ρ3 σ3 ∧ RepS K H3 s3 ∧ forL chk turn (dsOf K H D).nx (xs.drop (j + 1)) ρ3 s3, fun σ3 H3 ⟨ρ3, s3, a1, a2, a3, a4⟩ => ⟨_, by omega, rfl, hlt, ρ3, s3, a1, a2, a3, a4⟩, fun x H3 hy => ?_⟩
    obtain ⟨rx, k3, hs3⟩ := yl x H3 hy
    rw [← hturn] at hc
    refine ⟨ρ2, s2, xs[j], hρ2.keep k3, hs3, rx, wpTg_mono st.mono tg (fun ρ4 s4 q4 σ4 H4 k4 hρ4 hs4 => ?_) hc⟩
    refine ⟨ρ4, s4, hρ4, hs4, wpSs_mono st.mono body ?_ q4⟩
    have kk : Keep K H H4 := ((k1.trans k2).trans k3).trans k4
    have aft : ∀ ρ' s', (∃ s0 : PL.S, s0.le s' ∧ forL chk turn (dsOf K H D).nx (xs.drop (j + 1)) ρ' s0) → ∀ σ' H', Keep K H4 H' → RepE K H' ρ' σ' → RepS K H' s' → ∃ ρ3 s3, Keep K H1 H' ∧ RepE K H' ρ3 σ' ∧ RepS K H' s3 ∧ forL chk turn (dsOf K H D).nx (xs.drop (j + 1)) ρ3 s3 := fun ρ' s' ⟨s0, l0, f0⟩ σ' H' k' a b => ⟨ρ', s0, ((k2.trans k3).trans k4).trans k', a, b.le l0, f0⟩
    rw [← hturn] at aft
    exact ⟨fun ρ' s' q => by rw [← hturn]; exact aft ρ' s' q, fun d s' q v H' k' => q v H' (kk.trans k'), fun ρ' s' q σ' H' k' => q σ' H' (kk.trans k'), fun ρ' s' q => by rw [← hturn]; exact aft ρ' s' q⟩
  · have e : j = xs.length := by omega
    subst e
    rw [List.drop_eq_nil_of_le (Nat.le_refl _)] at hc
    simp only [forL] at hc
    exact .inl ⟨hJ.stop H2 s2 k2 hs2 hc.1, hc.2 σ2 H2 (k1.trans k2) hρ2 hs2⟩
theorem s_while (st : Stat K G C N sc fn X) {c : E} {body : List PL.St} {z : Expr} {b : List Stmt} {p : Pos} (hc : PT X z (tT K C c)) (hb : PSs X b (tSs K C body)) : PS X (.While z b [] p) (tS K C (.while c body)) := by
  refine ps_imp (ps_while (by rw [st.xe]; exact PassesOwn.never) hc hb) fun D σ H ⟨ρ, s, hρ, hs, h⟩ => ?_
  simp only [wpS] at h
  obtain ⟨n0, h⟩ := h
  generalize htest : (fun (ρ : Vs) (s : PL.S) (k : Bool → PL.S → Prop) => wpT C c ρ s k) = test at h
  generalize hturn : (fun (ρ : Vs) (s : PL.S) (k : Vs → PL.S → Prop) => wpSs C body ⟨k, (dsOf K H D).rt, (dsOf K H D).nx, k⟩ ρ s) = turn at h
  refine ⟨fun m σ2 H2 => ∃ ρ2 s2, Keep K H H2 ∧ RepE K H2 ρ2 σ2 ∧ RepS K H2 s2 ∧ whileL test turn (dsOf K H D).nx m ρ2 s2, ⟨n0, ρ, s, Keep.refl, hρ, hs, h⟩, ?_⟩
  rintro m σ2 H2 ⟨ρ2, s2, k2, hρ2, hs2, hw⟩
  cases m with
  | zero => exact hw.elim
  | succ m =>
    simp only [whileL] at hw
    rw [← htest] at hw
    refine tT.mk st.mono hρ2 hs2 hw fun t s3 H3 k3 hs3 h3 => ?_
    cases t
    · rw [if_neg (by simp)] at h3 ⊢
      exact h3 σ2 H3 (k2.trans k3) (hρ2.keep k3) hs3
    · rw [if_pos rfl] at h3 ⊢
      refine ⟨fun σ' H' => ∃ ρ' s', Keep K H H' ∧ RepE K H' ρ' σ' ∧ RepS K H' s' ∧ whileL test turn (dsOf K H D).nx m ρ' s', fun σ' H' q => ⟨m, Nat.lt_succ_self m, q⟩, ?_⟩
      rw [← hturn] at h3
      refine ⟨ρ2, s3, hρ2.keep k3, hs3, wpSs_mono st.mono body ?_ h3⟩
      have kk := k2.trans k3
      rw [← htest, ← hturn]
      exact ⟨fun ρ' s' ⟨s0, l0, f0⟩ σ' H' k' a b => ⟨ρ', s0, kk.trans k', a, b.le l0, f0⟩, fun d s' q v H' k' => q v H' (kk.trans k'), fun ρ' s' q σ' H' k' => q σ' H' (kk.trans k'), fun ρ' s' ⟨s0, l0, f0⟩ σ' H' k' a b => ⟨ρ', s0, kk.trans k', a, b.le l0, f0⟩⟩
theorem s_ret (st : Stat K G C N sc fn X) {e : E} {x : Expr} {p : Pos} (he : PE X x (tE K C e)) : PS X (.Return (some x) p) (tS K C (.ret e)) :=
  ps_imp (ps_ret he) fun D σ H ⟨ρ, s, hρ, hs, h⟩ => by
    simp only [wpS] at h
    exact tE.mk st.mono hρ hs h fun d s1 v1 H1 k1 r1 hs1 q => q v1 H1 k1 r1 hs1
theorem s_retN {p : Pos} : PS X (.Return none p) (tS K C .retN) :=
  ps_imp ps_retN fun D σ H ⟨ρ, s, hρ, hs, h⟩ => by
    simp only [wpS] at h
    exact h .non H Keep.refl rfl hs
theorem s_expr (st : Stat K G C N sc fn X) {e : E} {x : Expr} {p : Pos} (hn : notComp x = true) (he : PE X x (tE K C e)) : PS X (.Expr x p) (tS K C (.expr e)) :=
  ps_imp (ps_expr he (sw_no hn)) fun D σ H ⟨ρ, s, hρ, hs, h⟩ => by
    simp only [wpS] at h
    exact tE.mk st.mono hρ hs h fun d s1 v1 H1 k1 r1 hs1 q => q σ H1 k1 (hρ.keep k1) hs1
theorem next_imp {D : Ends} {σ : L2.St} {H : Hp} (h : tS K C .pass D σ H) : tNext D σ H := by
  obtain ⟨ρ, s, hρ, hs, h⟩ := h
  simp only [wpS] at h
  exact h σ H Keep.refl hρ hs
end
variable {K : Kc} {G : Gs} {C : Cs} {N : List Str}
mutual
theorem sS : ∀ (x : PL.St) {sc : Scope} {fn : Str → Bool} {X : Cx} {y : Stmt}, Stat K G C N sc fn X → chkS G N sc fn x y = true → PS X y (tS K C x)
  | .asg tg e, sc, fn, X, y, st, h => by
    rw [chkS.eq_def] at h
    split at h
    case h_1 t v p hq =>
      cases hq
      split at h
      · next hsw =>
        split at h
        · next i el ctg ctup it cond own y py e' t' i' ifs k scope p2 =>
          simp only [Bool.and_eq_true, decide_eq_true_eq, List.all_eq_true, List.contains_iff_mem] at h
          obtain ⟨⟨⟨⟨⟨⟨⟨rfl, h0⟩, h1⟩, h2⟩, h3⟩, h4⟩, h5⟩, h6⟩ := h
          split at h1
          · next ow how =>
            obtain ⟨i1, i2⟩ := sI it (tg := t') st h4
            exact s_comp st hsw h0 h1 (own_of how) h2 h3 i1 i2 (fun X' st' => sC cond st' h5) (fun X' st' => sE el st' h6)
          · cases h1
        · cases h
      · next hsw =>
        split at h
        · cases h
        · next hsd =>
          split at h
          · next hr =>
            simp only [Bool.and_eq_true] at h
            exact s_asg st (sG tg st h.1.2) (sE e st h.2) hsw hsd hr h.1.1
          · next ns hr =>
            split at h
            · simp only [Bool.and_eq_true, decide_eq_true_eq] at h
              obtain ⟨⟨⟨⟨h1, h2⟩, h3⟩, h4⟩, h5⟩ := h
              exact s_par st hr h1 h2 h3 (chkEs_len h5) (sEs _ st h4 h5).pa
            · cases h
          · cases h
    all_goals first
      | (next hq => cases hq; done)
      | cases h
  | .aug i op e, sc, fn, X, y, st, h => by
    rw [chkS.eq_def] at h
    split at h
    case h_2 hq =>
      cases hq
      simp only [Bool.and_eq_true, decide_eq_true_eq] at h
      obtain ⟨⟨⟨⟨h1, h2⟩, rfl⟩, h4⟩, h5⟩ := h
      exact s_aug st h4 h1 h2 (sE e st h5)
    all_goals first
      | (next hq => cases hq; done)
      | cases h
  | .augS o i e op, sc, fn, X, y, st, h => by
    rw [chkS.eq_def] at h
    split at h
    case h_3 hq =>
      cases hq
      simp only [Bool.and_eq_true, decide_eq_true_eq] at h
      obtain ⟨⟨⟨⟨⟨h1, rfl⟩, h3⟩, h4⟩, h5⟩, h6⟩ := h
      exact s_augS st h3 h1 (sE _ st h4) (sE _ st h5) (sE _ st h6)
    all_goals first
      | (next hq => cases hq; done)
      | cases h
  | .ife c a b, sc, fn, X, y, st, h => by
    rw [chkS.eq_def] at h
    split at h
    case h_4 hq =>
      cases hq
      simp only [Bool.and_eq_true] at h
      exact s_ife st (sT c st h.1.1) (sSs a st h.1.2) (sSs b st h.2)
    all_goals first
      | (next hq => cases hq; done)
      | cases h
  | .for tg it body, sc, fn, X, y, st, h => by
    rw [chkS.eq_def] at h
    split at h
    case h_5 t i b p hq =>
      cases hq
      simp only [Bool.and_eq_true] at h
      obtain ⟨i1, i2⟩ := sI it (tg := t) st h.1.2
      exact s_for st (sG tg st h.1.1) i1 i2 (sSs body st h.2)
    all_goals first
      | (next hq => cases hq; done)
      | cases h
  | .while c body, sc, fn, X, y, st, h => by
    rw [chkS.eq_def] at h
    split at h
    case h_6 hq =>
      cases hq
      simp only [Bool.and_eq_true] at h
      exact s_while st (sT c st h.1) (sSs body st h.2)
    all_goals first
      | (next hq => cases hq; done)
      | cases h
  | .ret e, sc, fn, X, y, st, h => by
    rw [chkS.eq_def] at h
    split at h
    case h_7 hq =>
      cases hq
      exact s_ret st (sE e st h)
    all_goals first
      | (next hq => cases hq; done)
      | cases h
  | .retN, sc, fn, X, y, st, h => by
    rw [chkS.eq_def] at h
    split at h
    case h_8 hq => exact s_retN
    all_goals first
      | (next hq => cases hq; done)
      | cases h
  | .expr e, sc, fn, X, y, st, h => by
    rw [chkS.eq_def] at h
    split at h
    case h_9 hq =>
      cases hq
      simp only [Bool.and_eq_true] at h
      exact s_expr st h.1 (sE e st h.2)
    all_goals first
      | (next hq => cases hq; done)
      | cases h
  | .pass, sc, fn, X, y, st, h => by
    rw [chkS.eq_def] at h
    split at h
    case h_10 hq => exact ps_imp ps_pass fun D σ H q => next_imp q
    case h_11 hq => exact ps_imp ps_doc fun D σ H q => next_imp q
    all_goals first
      | (next hq => cases hq; done)
      | cases h
  | .brk, sc, fn, X, y, st, h => by
    rw [chkS.eq_def] at h
    split at h
    case h_12 hq =>
      refine ps_imp ps_break fun D σ H ⟨ρ, s, hρ, hs, h⟩ => ?_
      simp only [wpS] at h
      exact h σ H Keep.refl hρ hs
    all_goals first
      | (next hq => cases hq; done)
      | cases h
  | .cont, sc, fn, X, y, st, h => by
    rw [chkS.eq_def] at h
    split at h
    case h_13 hq =>
      refine ps_imp ps_continue fun D σ H ⟨ρ, s, hρ, hs, h⟩ => ?_
      simp only [wpS] at h
      exact h σ H Keep.refl hρ hs
    all_goals first
      | (next hq => cases hq; done)
      | cases h
theorem sSs : ∀ (xs : List PL.St) {sc : Scope} {fn : Str → Bool} {X : Cx} {ys : List Stmt}, Stat K G C N sc fn X → chkSs G N sc fn xs ys = true → PSs X ys (tSs K C xs)
  | [], _, _, _, [], _, _ => pss_imp pss_nil fun D σ H ⟨ρ, s, hρ, hs, h⟩ => by
    simp only [wpSs] at h
    exact h σ H Keep.refl hρ hs
  | x :: xs, sc, fn, X, y :: ys, st, h => by
    simp only [chkSs, Bool.and_eq_true] at h
    refine pss_imp (pss_cons (sS x st h.1) (sSs xs st h.2)) fun D σ H ⟨ρ, s, hρ, hs, q⟩ => ?_
    simp only [wpSs] at q
    have le : DsLe ⟨fun ρ' s' => wpSs C xs (dsOf K H D) ρ' s', (dsOf K H D).rt, (dsOf K H D).bk, (dsOf K H D).ct⟩ (dsOf K H { D with nx := tSs K C xs D }) :=
      ⟨fun ρ1 s1 q1 σ1 H1 k1 a b => ⟨ρ1, s1, a, b, wpSs_mono st.mono xs (dsOf.at k1) q1⟩, fun _ _ q => q, fun _ _ q => q, fun _ _ q => q⟩
    exact ⟨ρ, s, hρ, hs, wpS_mono st.mono x le q⟩
  | [], _, _, _, _ :: _, _, h => by simp [chkSs] at h
  | _ :: _, _, _, _, [], _, h => by simp [chkSs] at h
end
end PL
end

section
set_option Elab.async false
set_option linter.all false
set_option maxRecDepth 100000
set_option maxHeartbeats 4000000
namespace PL
open PySem PySem.Spec PyProof.Rows L2

/-! ## defs -/
structure DI where
  name : Str
  ps : List Str
  N : List Str
  st : Stmt
def scopeB (N ps : List Str) (sc : Scope) : Bool :=
  decide (sc.kind = .function) && !sc.isCoroutine && !sc.isGenerator && decide N.Nodup && decide (N.take ps.length = ps) &&
    (ps.all fun x => decide (sc.names.lookup x = some .local) || decide (sc.names.lookup x = some .cell)) && (sc.names.all fun y => decide (y.2 ≠ .free))
theorem scope_of {N ps : List Str} {sc : Scope} (h : scopeB N ps sc = true) : FnScope N ps sc := by
  unfold scopeB at h
  simp only [Bool.and_eq_true, decide_eq_true_eq, Bool.not_eq_true', List.all_eq_true, Bool.or_eq_true] at h
  obtain ⟨⟨⟨⟨⟨⟨h1, h2⟩, h3⟩, h4⟩, h5⟩, h6⟩, h7⟩ := h
  exact ⟨h1, h2, h3, h4, h5, h6, h7⟩
def DI.ok (G : Gs) (d : DI) (f : Fn) : Bool := decide (d.ps.length = f.np) && decide (d.N.length = f.nl) && scopeB d.N d.ps (defScope d.st) && chkSs G d.N (defScope d.st) (fun _ => true) f.body (defBody d.st)
abbrev DI.fun (d : DI) (K : PySem.W.Frag) (ad : Addr) (fd : FuncData) : Prop := FunD K d.name d.name (defArgs d.st) (defBody d.st) (defScope d.st) [] [] ad fd
/-- every def of the list stands in the text, is read as its term -/
def DefsOk (K : PySem.W.Frag) (mg : Str → Option Value) (G : Gs) (P : Prog) : Prop :=
  ∀ (i : Nat) (x : Str), G.fns[i]? = some x → ∃ (d : DI) (f : Fn) (ad : Addr) (fd : FuncData), P[i]? = some f ∧ d.name = x ∧ d.ok G f = true ∧ d.fun K ad fd ∧ mg d.name = some (.ref ad) ∧ Binds K fd d.ps []
theorem RepE.start {K : Kc} {H : Hp} {N : List Str} {f : Fn} {ds : List D} {vs : List V} (hl : N.length = f.nl) (r : RepDs K H ds vs) : RepE K H (startV f ds) (start N vs) := by
  have rl := r.length
  refine ⟨?_, fun i d e => ?_⟩
  · unfold startV L2.start
    simp only [List.length_append, List.length_map, List.length_replicate, hl, rl]
  · unfold startV at e
    by_cases hi : i < ds.length
    · rw [List.getElem?_append_left (by simpa using hi), List.getElem?_map] at e
      obtain ⟨d', e1, e2⟩ := Option.map_eq_some_iff.mp e
      cases e2
      obtain ⟨v, ev, rv⟩ := r.get e1
      refine ⟨v, ?_, rv⟩
      unfold L2.start
      rw [List.getElem?_append_left (by simp; omega), List.getElem?_map, ev]
      rfl
    · rw [List.getElem?_append_right (by simpa using hi), List.getElem?_replicate] at e
      split at e <;> cases e
theorem retD_ds {K : Kc} {H : Hp} {Q : VK} : DsLe (retD (PQ K H Q)) (dsOf K H { nx := fun _ H' => Q .non H', rt := Q }) :=
  ⟨fun ρ s ⟨s0, l, q⟩ σ' H' k a b => q .non H' k rfl (b.le l), fun d s ⟨s0, l, q⟩ v H' k r b => q v H' k r (b.le l), fun ρ s h => h.elim, fun ρ s h => h.elim⟩
theorem fn_all {K : Kc} {G : Gs} {P : Prog} {prog : Program} {w : World} {mg : Str → Option Value} {base : Heap} (hD : DefsOk K.K mg G P) (hfree : ∀ x ∈ G.free, mg x = none) : ∀ (k i : Nat) (d : DI) (f : Fn) (ad : Addr) (fd : FuncData),
    P[i]? = some f → d.ok G f = true → d.fun K.K ad fd → FnOk prog w K.K mg base CX0 k ad fd d.ps (spC K (wpF P k) i)
  | 0, i, d, f, ad, fd, hf, hok, F => ⟨fun vs H Q E ⟨ds, s, r, hs, h⟩ => by simp only [wpF] at h, fun A outer s H args us vs Q E _ _ _ _ ⟨ds, s', r, hs, h⟩ => by simp only [wpF] at h⟩
  | k + 1, i, d, f, ad, fd, hf, hok, F => by
    unfold DI.ok at hok
    simp only [Bool.and_eq_true, decide_eq_true_eq] at hok
    obtain ⟨⟨⟨h1, h2⟩, h3⟩, h4⟩ := hok
    have S := scope_of h3
    refine FunD.ok F S (fun vs H Q E ⟨ds, s, r, hs, h⟩ => ?_) (fun cdv A outer s H vs Q E hr ⟨ds, t, r, hs, h⟩ => ⟨tSs K (wpF P k) f.body, PSs.nox ?_, ?_⟩)
    · simp only [wpF, hf] at h
      rw [← r.length, h.1, h1]
    · refine sSs (K := K) (G := G) (C := wpF P k) (N := d.N) (sc := defScope d.st) (fn := fun _ => true) f.body ?_ h4
      refine ⟨rfl, rfl, S.nd, rfl, rfl, S.kind, rfl, rfl, ?_, hfree, wpF_mono P k, fun j x hx => ?_⟩
      · have := hr.un
        show (A.deeper _).units + 65 < cLine
        omega
      · obtain ⟨d', f', ad', fd', e1, e2, e3, e4, e5, e6⟩ := hD j x hx
        exact ⟨ad', fd', d'.ps, k, fn_all hD hfree k j d' f' ad' fd' e1 e3 e4, hr, by rw [← e2]; exact e5, e4.kp, e6⟩
    · simp only [wpF, hf] at h
      exact ⟨startV f ds, t, RepE.start h2 r, hs, wpSs_mono (wpF_mono P k) f.body retD_ds h.2⟩
/-- the law's promise -/
def spLaw (K : PySem.W.Frag) (P : Prog) (k i : Nat) : Sp := fun vs H Q E => ∃ (a : Addr) (ns : List Int), vs = [.ref a] ∧ RoL ⟨K, a⟩ H (ns.map V.int) ∧ ns.length ≤ 63 ∧ (∀ H', Q (.bl true) H')
theorem rep_ints {K : Kc} {H : Hp} : ∀ ns : List Int, RepDs K H (ns.map D.int) (ns.map V.int)
  | [] => .nil
  | n :: ns => .cons rfl (rep_ints ns)
/-- the store at the law's entry -/
def S0 (ns : List Int) : PL.S := fun a => if a = 0 then some (.rol (ns.map D.int)) else none
theorem law_all {G : Gs} {P : Prog} {k i : Nat} {K : PySem.W.Frag} {prog : Program} {w : World} {mg : Str → Option Value} {base : Heap} (hD : DefsOk K mg G P) (hfree : ∀ x ∈ G.free, mg x = none) {d : DI} {f : Fn} {ad : Addr} {fd : FuncData} (hf : P[i]? = some f) (hok : d.ok G f = true) (F : d.fun K ad fd)
    (hps : d.ps.length = 1) (law : ∀ ns : List Int, ns.length ≤ 63 → wpF P k i [.loc 0] (S0 ns) fun v _ => v = .bl true) : FnOk prog w K mg base CX0 k ad fd d.ps (spLaw K P k i) := by
  refine ⟨fun vs H Q E ⟨a, ns, e, _⟩ => by rw [e, hps]; rfl, fun A outer s H args us vs Q E hr he hb hv ⟨a, ns, e, hro, hl, hq⟩ => ?_⟩
  subst e
  refine (fn_all (K := ⟨K, a⟩) hD hfree k i d f ad fd hf hok F).run A outer s H args us _ Q E hr he hb hv ⟨[.loc 0], S0 ns, .one rfl, fun b o e => ?_, wpF_mono P k _ _ _ _ _ (fun v s' q v' H' k' r hs' => ?_) (law ns hl)⟩
  · unfold S0 at e
    split at e
    · next h0 => subst h0; cases e; exact ⟨_, rfl, hro, rep_ints ns⟩
    · cases e
  · subst q
    cases r
    exact hq H'
end PL
end

section
set_option Elab.async false
set_option linter.all false
set_option maxRecDepth 100000
set_option maxHeartbeats 4000000
namespace PL
open PySem PySem.Spec PyProof.Rows L2

/-! ## from the head's facts to the defs -/
def DI.defD (d : DI) : He.DefD := ⟨(d.name, none), d.name, d.name, defArgs d.st, defBody d.st, defScope d.st, [], []⟩
def faOf (dis : List DI) (free : List Str) : List He.Fa := dis.map (fun d => .glo d.name) ++ free.map .free
def BindsB (d : DI) : Prop := ∀ (kV doc pm : Value) (an : Option Addr) (cdv ct : Value) (us : List Value), us.length = d.ps.length → bindArgs (PySem.W.fnOf d.name d.name (defArgs d.st) (defBody d.st) (defScope d.st) .none kV doc pm an cdv ct) ⟨us, []⟩ = pure (d.ps.zip us)
section
variable {K : PySem.W.Frag} {h : Heap} {mg : Str → Option Value} {dis : List DI} {P : Prog} {G : Gs}
theorem glo_of (X : K.In h) (Gn : h.Ns mainGlobals mg) {fn : List He.DefD} (c : He.SaysD (faOf dis G.free) fn K) {i : Nat} {d : DI} (e : dis[i]? = some d) : mg d.name = some (.ref (He.ga K d.name)) := by
  have hi : i < dis.length := (List.getElem?_eq_some_iff.mp e).1
  have e2 : (faOf dis G.free)[i]? = some (.glo d.name) := by
    unfold faOf
    rw [List.getElem?_append_left (by simpa using hi), List.getElem?_map, e]; rfl
  exact He.glo_ok X Gn (c.fact i e2)
theorem free_all (X : K.In h) (Gn : h.Ns mainGlobals mg) {fn : List He.DefD} (c : He.SaysD (faOf dis G.free) fn K) : ∀ x ∈ G.free, mg x = none := fun x hx => by
  obtain ⟨i, e⟩ := List.getElem?_of_mem hx
  have e2 : (faOf dis G.free)[dis.length + i]? = some (.free x) := by
    unfold faOf
    rw [List.getElem?_append_right (by simp), List.length_map, Nat.add_sub_cancel_left, List.getElem?_map, e]; rfl
  exact He.free_ok X Gn (c.fact _ e2)
theorem zip_at {dis : List DI} {P : Prog} {i : Nat} {d : DI} {f : Fn} (hok : (List.zipWith (fun d f => d.ok G f) dis P).all id = true) (e : dis[i]? = some d) (e2 : P[i]? = some f) : d.ok G f = true := by
  rw [List.all_eq_true] at hok
  refine hok _ (List.mem_of_getElem? (i := i) ?_)
  rw [List.getElem?_zipWith, e, e2]
  rfl
theorem fun_of (c : He.SaysD (faOf dis G.free) (dis.map DI.defD) K) {i : Nat} {d : DI} (e : dis[i]? = some d) : ∃ fd, d.fun K (He.ga K d.name) fd := by
  obtain ⟨fd, F⟩ := c.def_ i (d := d.defD) (by rw [List.getElem?_map, e]; rfl)
  exact ⟨fd, F⟩
theorem defs_of (X : K.In h) (Gn : h.Ns mainGlobals mg) (c : He.SaysD (faOf dis G.free) (dis.map DI.defD) K) (hG : G.fns = dis.map (·.name)) (hl : dis.length = P.length) (hok : (List.zipWith (fun d f => d.ok G f) dis P).all id = true) (hb : ∀ d ∈ dis, BindsB d) : DefsOk K mg G P := by
  intro i x hx
  rw [hG, List.getElem?_map] at hx
  obtain ⟨d, e, rfl⟩ := Option.map_eq_some_iff.mp hx
  have hi : i < P.length := by rw [← hl]; exact (List.getElem?_eq_some_iff.mp e).1
  obtain ⟨fd, F⟩ := fun_of c e
  exact ⟨d, P[i], He.ga K d.name, fd, List.getElem?_eq_getElem hi, rfl, zip_at hok e (List.getElem?_eq_getElem hi), F, glo_of X Gn c e, FunD.bindsN F (hb d (List.mem_of_getElem? e))⟩
/-- the law's def, from the facts -/
theorem facts_of {prog : Program} {w : World} {f0 : Addr} {k i : Nat} {d : DI} (X : K.In h) (Gn : h.Ns mainGlobals mg) (hfa : mg d.name = some (.ref f0)) (c : He.SaysD (faOf dis G.free) (dis.map DI.defD) K) (hG : G.fns = dis.map (·.name)) (hl : dis.length = P.length)
    (hok : (List.zipWith (fun d f => d.ok G f) dis P).all id = true) (hb : ∀ d ∈ dis, BindsB d) (e : dis[i]? = some d) (hps : d.ps = [("script" : Str)]) (law : ∀ ns : List Int, ns.length ≤ 63 → wpF P k i [.loc 0] (S0 ns) fun v _ => v = .bl true) :
    ∃ fd : FuncData, (∀ (s : Shared) (v : Value), BindsTo s fd ⟨[v], []⟩ [("script", v)]) ∧ ∀ base : Heap, K.In base → base.Ns mainGlobals mg → FnOk prog w K mg base CX0 k f0 fd [("script" : Str)] (spLaw K P k i) := by
  have D := defs_of X Gn c hG hl hok hb
  obtain ⟨fd, F⟩ := fun_of c e
  have hi : i < P.length := by rw [← hl]; exact (List.getElem?_eq_some_iff.mp e).1
  have e0 := hfa.symm.trans (glo_of X Gn c e)
  cases e0
  have b : ∀ (s : Shared) (us : List Value), us.length = d.ps.length → BindsTo s fd ⟨us, []⟩ (d.ps.zip us) := FunD.bindsA F (hb d (List.mem_of_getElem? e))
  refine ⟨fd, fun s v => ?_, fun base _ _ => ?_⟩
  · have := b s [v] (by rw [hps]; rfl)
    rw [hps] at this
    exact this
  · rw [← hps]
    exact law_all D (free_all X Gn c) (List.getElem?_eq_getElem hi) (zip_at hok e (List.getElem?_eq_getElem hi)) F (by rw [hps]; rfl) law
theorem law_start {k i : Nat} (H : Hp) (a : Addr) (ns : List Int) (hl : ns.length ≤ 63) (hO : Only H) (hS : SqL K H a (ns.map V.int)) : spLaw K P k i [.ref a] H (fun v _ => v = .bl true) fun _ _ _ => False :=
  ⟨a, ns, rfl, RoL.of (K := ⟨K, a⟩) hS hO, hl, fun _ => rfl⟩
end
end PL
end

section
set_option Elab.async false
set_option linter.all false
set_option maxRecDepth 100000
set_option maxHeartbeats 4000000
namespace PL
open PySem

/-! ## tools for the mathematics on wpF -/
theorem wpF_call {P : Prog} {k i : Nat} {f : Fn} {args : List D} {s : S} {Q : Post} (hf : P[i]? = some f) (hl : args.length = f.np) (h : wpSs (wpF P k) f.body (retD Q) (startV f args) s) : wpF P (k + 1) i args s Q := by
  simp only [wpF, hf]
  exact ⟨hl, h⟩
/-- more room -/
theorem wpF_up {P : Prog} {k j i : Nat} {args : List D} {s : S} {Q : Post} (hk : k ≤ j) (h : wpF P k i args s Q) : wpF P j i args s Q := by
  induction hk with
  | refl => exact h
  | step _ ih => exact wpF_le P _ _ _ _ _ _ (fun _ _ q => q) ih
theorem forL_of {chk : S → Prop} {turn : D → Vs → S → (Vs → S → Prop) → Prop} {nx : Vs → S → Prop} (hm : ∀ x ρ s (k k' : Vs → S → Prop), (∀ ρ s, k ρ s → k' ρ s) → turn x ρ s k → turn x ρ s k') (I : Nat → Vs → S → Prop) :
    ∀ {xs : List D} {ρ : Vs} {s : S}, I 0 ρ s → (∀ i x ρ s, xs[i]? = some x → I i ρ s → chk s ∧ turn x ρ s fun ρ' s' => ∃ s0 : S, s0.le s' ∧ I (i + 1) ρ' s0) → (∀ ρ s, I xs.length ρ s → chk s ∧ nx ρ s) → forL chk turn nx xs ρ s := by
  intro xs
  induction xs generalizing I with
  | nil => intro ρ s h0 hs he; exact he ρ s h0
  | cons x xs ih =>
    intro ρ s h0 hs he
    simp only [forL]
    obtain ⟨c, t⟩ := hs 0 x ρ s rfl h0
    refine ⟨c, hm _ _ _ _ _ (fun ρ' s' ⟨s0, l, h⟩ => ⟨s0, l, ?_⟩) t⟩
    exact ih (fun i => I (i + 1)) h (fun i y ρ s e h => hs (i + 1) y ρ s e h) he
/-- a for statement by an invariant -/
theorem for_of {C : Cs} (hC : CsLe C C) {tg : Tg} {it : E} {body : List St} {K : Ds} {ρ : Vs} {s : S} (h : wpI C it ρ s fun chk xs s1 => ∃ I : Nat → Vs → S → Prop, I 0 ρ s1 ∧
      (∀ i x ρ s, xs[i]? = some x → I i ρ s → chk s ∧ wpTg C tg x ρ s fun ρ2 s2 => wpSs C body ⟨fun ρ' s' => ∃ s0 : S, s0.le s' ∧ I (i + 1) ρ' s0, K.rt, K.nx, fun ρ' s' => ∃ s0 : S, s0.le s' ∧ I (i + 1) ρ' s0⟩ ρ2 s2) ∧ (∀ ρ s, I xs.length ρ s → chk s ∧ K.nx ρ s)) :
    wpS C (.for tg it body) K ρ s := by
  simp only [wpS]
  refine wpI_mono hC it (fun chk xs s1 ⟨I, h0, hs, he⟩ => ?_) h
  refine forL_of (fun x ρ s k k' hk h => ?_) I h0 hs he
  exact wpTg_mono hC tg (fun ρ2 s2 h3 => wpSs_mono hC body (show DsLe ⟨k, K.rt, K.nx, k⟩ ⟨k', K.rt, K.nx, k'⟩ from ⟨hk, fun _ _ q => q, fun _ _ q => q, hk⟩) h3) h
theorem rangeL_len {lo : Int} {n : Nat} {c : Int} : (rangeL lo n c).length = n := by simp [rangeL]
theorem rangeL_at {lo : Int} {n : Nat} {c : Int} {i : Nat} {x : D} (h : (rangeL lo n c)[i]? = some x) : i < n ∧ x = .int (lo + (i : Int) * c) := by
  unfold rangeL at h
  rw [List.getElem?_map] at h
  obtain ⟨k, e, rfl⟩ := Option.map_eq_some_iff.mp h
  obtain ⟨h1, h2⟩ := List.getElem?_eq_some_iff.mp e
  simp only [List.length_range] at h1
  rw [List.getElem_range] at h2
  subst h2
  exact ⟨h1, rfl⟩
/-- a comprehension, each turn told: g what it gives of an item -/
theorem compL_of {chk : S → Prop} {p : Nat} {turn : D → S → (Option D → S → Prop) → Prop} {Q : S → Prop} {s : S} (g : D → Option D) (hp : s p = none) : ∀ {xs acc : List D}, xs.length + acc.length ≤ lim → (∀ acc, chk (s.up p (.lst acc))) →
    (∀ x ∈ xs, ∀ (acc : List D) (k : Option D → S → Prop), (∀ t, (s.up p (.lst acc)).le t → k (g x) t) → turn x (s.up p (.lst acc)) k) → Q (s.up p (.lst (acc ++ xs.filterMap g))) → compL chk p turn Q xs acc (s.up p (.lst acc))
  | [], acc, hl, hc, ht, hq => by
    simp only [compL]
    exact ⟨hc _, S.up_same, by simpa using hq⟩
  | x :: xs, acc, hl, hc, ht, hq => by
    simp only [compL]
    simp only [List.length_cons] at hl
    refine ⟨hc _, ht x (by simp) acc _ fun t l => ?_⟩
    have e : t p = some (.lst acc) := l p _ S.up_same
    have base : s.le t := S.le_trans (S.le_up hp) l
    cases hg : g x with
    | none =>
      refine ⟨e, _, l, compL_of g hp (by omega) hc (fun y hy => ht y (by simp [hy])) ?_⟩
      simpa [List.filterMap_cons, hg] using hq
    | some y =>
      refine ⟨e, by omega, s.up p (.lst (acc ++ [y])), S.up_le base, compL_of g hp (by simp; omega) hc (fun y hy => ht y (by simp [hy])) ?_⟩
      simpa [List.filterMap_cons, hg] using hq
end PL
namespace PL
open PySem
section
variable {C : Cs} {K : Ds} {ρ : Vs} {s : S} {Q : Post}
theorem st_asg {tg : Tg} {e : E} : wpS C (.asg tg e) K ρ s = wpE C e ρ s fun d s1 => wpTg C tg d ρ s1 K.nx := by simp only [wpS]
theorem st_ife {c : E} {a b : List St} : wpS C (.ife c a b) K ρ s = wpT C c ρ s fun t s1 => if t = true then wpSs C a K ρ s1 else wpSs C b K ρ s1 := by simp only [wpS]
theorem st_ret {e : E} : wpS C (.ret e) K ρ s = wpE C e ρ s K.rt := by simp only [wpS]
theorem st_retN : wpS C .retN K ρ s = K.rt .non s := by simp only [wpS]
theorem st_expr {e : E} : wpS C (.expr e) K ρ s = wpE C e ρ s fun _ s1 => K.nx ρ s1 := by simp only [wpS]
theorem st_nil : wpSs C [] K ρ s = K.nx ρ s := by simp only [wpSs]
theorem st_cons {x : St} {r : List St} : wpSs C (x :: r) K ρ s = wpS C x ⟨fun ρ' s' => wpSs C r K ρ' s', K.rt, K.bk, K.ct⟩ ρ s := by simp only [wpSs]
theorem st_augS {o i e : E} {op : Op} : wpS C (.augS o i op e) K ρ s = wpE C o ρ s fun x s1 => wpE C i ρ s1 fun y s2 => wpGet x y s2 fun v s3 => wpE C e ρ s3 fun z s4 => wpAug op v z s4 fun u s5 => wpSet x y u s5 fun s6 => K.nx ρ s6 := by simp only [wpS]
theorem rt_of {d : D} : (∃ s0 : S, s0.le s ∧ Q d s0) → (retD Q).rt d s := fun h => h
theorem nx_of : (∃ s0 : S, s0.le s ∧ Q .non s0) → (retD Q).nx ρ s := fun h => h
theorem tg_name {i : Nat} {d : D} {k : Vs → S → Prop} : wpTg C (.name i) d ρ s k = k (ρ.set i (some d)) s := by simp only [wpTg]
end
end PL
namespace PL
open PySem
theorem rng1 {b : Int} (h : -(2 ^ 62) ≤ b ∧ b < 2 ^ 62) : rngOf [.int b] = some (0, b.toNat, 1) := by unfold rngOf; exact if_pos h
theorem rng2 {a b : Int} (h : -(2 ^ 62) ≤ a ∧ a < 2 ^ 62 ∧ -(2 ^ 62) ≤ b ∧ b < 2 ^ 62) : rngOf [.int a, .int b] = some (a, (b - a).toNat, 1) := by unfold rngOf; exact if_pos h
theorem rng3 {a b c : Int} (h : -(2 ^ 61) ≤ a ∧ a < 2 ^ 61 ∧ -(2 ^ 61) ≤ b ∧ b < 2 ^ 61 ∧ c ≠ 0 ∧ c.natAbs < 2 ^ 30) : rngOf [.int a, .int b, .int c] = some (a, (if 0 < c then (b - a + c - 1) / c else (a - b - c - 1) / (-c)).toNat, c) := by unfold rngOf; exact if_pos h
end PL
namespace PL
open PySem
section
variable {C : Cs} {ρ : Vs} {s : S} {R : ItP}
theorem I_rng1 (hC : CsLe C C) {e : E} (h : wpE C e ρ s fun y s2 => ∃ b : Int, y = .int b ∧ (-(2 ^ 62) ≤ b ∧ b < 2 ^ 62) ∧ R (fun _ => True) (rangeL 0 b.toNat 1) s2) : wpI C (.rng [e]) ρ s R := by
  simp only [wpI, wpEs]
  refine wpE_mono hC e (fun y s2 ⟨b, e1, hb, r⟩ => ?_) h
  subst e1
  rw [rng1 hb]
  exact r
theorem I_rng2 (hC : CsLe C C) {e1 e2 : E} (h : wpE C e1 ρ s fun x s1 => wpE C e2 ρ s1 fun y s2 => ∃ a b : Int, x = .int a ∧ y = .int b ∧ (-(2 ^ 62) ≤ a ∧ a < 2 ^ 62 ∧ -(2 ^ 62) ≤ b ∧ b < 2 ^ 62) ∧ R (fun _ => True) (rangeL a (b - a).toNat 1) s2) : wpI C (.rng [e1, e2]) ρ s R := by
  simp only [wpI, wpEs]
  refine wpE_mono hC e1 (fun x s1 h1 => wpE_mono hC e2 (fun y s2 ⟨a, b, q1, q2, hb, r⟩ => ?_) h1) h
  subst q1 q2
  rw [rng2 hb]
  exact r
theorem I_rng3 (hC : CsLe C C) {e1 e2 e3 : E} (h : wpE C e1 ρ s fun x s1 => wpE C e2 ρ s1 fun y s2 => wpE C e3 ρ s2 fun z s3 => ∃ a b c : Int, x = .int a ∧ y = .int b ∧ z = .int c ∧ (-(2 ^ 61) ≤ a ∧ a < 2 ^ 61 ∧ -(2 ^ 61) ≤ b ∧ b < 2 ^ 61 ∧ c ≠ 0 ∧ c.natAbs < 2 ^ 30) ∧
    R (fun _ => True) (rangeL a (if 0 < c then (b - a + c - 1) / c else (a - b - c - 1) / (-c)).toNat c) s3) : wpI C (.rng [e1, e2, e3]) ρ s R := by
  simp only [wpI, wpEs]
  refine wpE_mono hC e1 (fun x s1 h1 => wpE_mono hC e2 (fun y s2 h2 => wpE_mono hC e3 (fun z s3 ⟨a, b, c, q1, q2, q3, hb, r⟩ => ?_) h2) h1) h
  subst q1 q2 q3
  rw [rng3 hb]
  exact r
end
end PL
namespace PL
open PySem
theorem I_rngD {C : Cs} {ρ : Vs} {s : S} {R : ItP} (hC : CsLe C C) {e1 e2 : E} (h : wpE C e1 ρ s fun x s1 => wpE C e2 ρ s1 fun y s2 => ∃ a b : Int, x = .int a ∧ y = .int b ∧ (-(2 ^ 61) ≤ a ∧ a < 2 ^ 61 ∧ -(2 ^ 61) ≤ b ∧ b < 2 ^ 61) ∧
    R (fun _ => True) (rangeL a (a - b).toNat (-1)) s2) : wpI C (.rng [e1, e2, .neg (.int 1)]) ρ s R := by
  refine I_rng3 hC ?_
  refine wpE_mono hC e1 (fun x s1 h1 => wpE_mono hC e2 (fun y s2 ⟨a, b, q1, q2, hb, r⟩ => ?_) h1) h
  simp only [wpE]
  refine ⟨a, b, -1, q1, q2, rfl, ⟨hb.1, hb.2.1, hb.2.2.1, hb.2.2.2, by decide, by decide⟩, ?_⟩
  rw [if_neg (by decide), show (-(-1) : Int) = 1 from rfl, Int.ediv_one, show a - b - -1 - 1 = a - b from by omega]
  exact r
end PL
namespace PL
theorem tru_bl {s : S} {b : Bool} : tru s (.bl b) = some b := rfl
end PL
namespace PL
section
variable {s : S} {Q : Post} {i j : Int} {xs ys : List D} {a b : Nat}
theorem bin_addI : wpBin .add (.int i) (.int j) s Q = Q (.int (i + j)) s := rfl
theorem bin_addS {x y : PySem.Str} : wpBin .add (.str x) (.str y) s Q = (x.length + y.length ≤ lim ∧ Q (.str (x ++ y)) s) := rfl
theorem bin_addT : wpBin .add (.tup xs) (.tup ys) s Q = (xs.length + ys.length ≤ lim ∧ Q (.tup (xs ++ ys)) s) := rfl
theorem bin_addL : wpBin .add (.loc a) (.loc b) s Q = ∃ xs ys, s a = some (.lst xs) ∧ s b = some (.lst ys) ∧ xs.length + ys.length ≤ lim ∧ newO (.lst (xs ++ ys)) s Q := rfl
theorem bin_subI : wpBin .sub (.int i) (.int j) s Q = Q (.int (i - j)) s := rfl
theorem bin_mulI : wpBin .mul (.int i) (.int j) s Q = (((-(2 ^ 64) < i ∧ i < 2 ^ 64) ∨ (-(2 ^ 64) < j ∧ j < 2 ^ 64)) ∧ Q (.int (i * j)) s) := rfl
theorem bin_fdivI : wpBin .fdiv (.int i) (.int j) s Q = ((0 < j ∧ j < 1073741824) ∧ Q (.int (i / j)) s) := rfl
theorem bin_modI : wpBin .mod (.int i) (.int j) s Q = (0 < j ∧ Q (.int (i % j)) s) := rfl
theorem bin_powI : wpBin .pow (.int i) (.int j) s Q = ((0 ≤ j ∧ j ≤ 1000000 ∧ i.natAbs < 2 ^ 64) ∧ Q (.int (i ^ j.toNat)) s) := rfl
theorem bw_len : wpBi .len = wpLen := rfl
theorem bw_abs : wpBi .abs = wpAbs := rfl
theorem bw_int : wpBi .int = wpInt := rfl
theorem bw_list : wpBi .list = wpList := rfl
theorem bw_tuple : wpBi .tuple = wpTuple := rfl
theorem bw_sorted : wpBi .sorted = wpSorted false := rfl
theorem bw_sum : wpBi .sum = wpSum := rfl
theorem bw_all : wpBi .all = wpAllB := rfl
theorem bw_any : wpBi .any = wpAnyB := rfl
theorem bw_max : wpBi .max = wpMax := rfl
theorem bw_min : wpBi .min = wpMin := rfl
theorem bw_isi {c : Cl} : wpBi (.isi c) = wpIsi c := rfl
theorem len_T : wpLen [.tup xs] s Q = Q (.int xs.length) s := rfl
theorem len_L (h : s a = some (.lst xs)) (q : Q (.int xs.length) s) : wpLen [.loc a] s Q := by
  simp only [wpLen, h]
  exact q
theorem abs_I : wpAbs [.int i] s Q = Q (.int (if i < 0 then -i else i)) s := rfl
theorem int_I : wpInt [.int i] s Q = Q (.int i) s := rfl
theorem aug_addI : wpAug .add (.int i) (.int j) s Q = Q (.int (i + j)) s := rfl
theorem aug_subI : wpAug .sub (.int i) (.int j) s Q = Q (.int (i - j)) s := rfl
theorem cm_ltI : wpCm .lt (.int i) (.int j) s Q = Q (.bl (decide (i < j))) s := rfl
theorem cm_leI : wpCm .le (.int i) (.int j) s Q = Q (.bl (decide (i ≤ j))) s := rfl
theorem cm_gtI : wpCm .gt (.int i) (.int j) s Q = Q (.bl (decide (j < i))) s := rfl
theorem cm_geI : wpCm .ge (.int i) (.int j) s Q = Q (.bl (decide (j ≤ i))) s := rfl
end
end PL
namespace PL
theorem I_val {C : Cs} {ρ : Vs} {s : S} {R : ItP} {e : E} : wpI C (.val e) ρ s R = wpE C e ρ s fun x s1 => wpIter x s1 R := by simp only [wpI]
end PL
namespace PL
theorem st_for {C : Cs} {K : Ds} {ρ : Vs} {s : S} {tg : Tg} {it : E} {body : List St} : wpS C (.for tg it body) K ρ s = wpI C it ρ s fun chk xs s1 => forL chk (fun x ρ s k => wpTg C tg x ρ s fun ρ2 s2 => wpSs C body ⟨k, K.rt, K.nx, k⟩ ρ2 s2) K.nx xs ρ s1 := by simp only [wpS]
end PL
end

section
set_option Elab.async false
set_option linter.all false
set_option maxRecDepth 100000
set_option maxHeartbeats 4000000
namespace PL
open PySem PySem.W PySem.SeqAt

/-! ## plain values: whole numbers, texts, None, tuples of these -/
mutual
theorem beq_iff : ∀ x y : D, D.beq x y = true ↔ x = y
  | .non, y => by cases y <;> simp [D.beq]
  | .bl a, y => by cases y <;> simp [D.beq]
  | .int a, y => by cases y <;> simp [D.beq]
  | .str a, y => by cases y <;> simp [D.beq]
  | .loc a, y => by cases y <;> simp [D.beq]
  | .tup xs, y => by
    cases y with
    | tup ys => simp only [D.beq, beqs_iff xs ys, D.tup.injEq]
    | _ => simp [D.beq]
theorem beqs_iff : ∀ xs ys : List D, D.beqs xs ys = true ↔ xs = ys
  | [], [] => by simp [D.beqs]
  | [], _ :: _ => by simp [D.beqs]
  | _ :: _, [] => by simp [D.beqs]
  | x :: xs, y :: ys => by simp only [D.beqs, Bool.and_eq_true, beq_iff x y, beqs_iff xs ys, List.cons.injEq]
end
instance : DecidableEq D := fun x y => decidable_of_iff (D.beq x y = true) (beq_iff x y)
mutual
def datP : D → PyData
  | .non => .none
  | .bl b => .bool b
  | .int i => .int i
  | .str x => .str x
  | .tup xs => .tuple (datPs xs)
  | .loc _ => .none
def datPs : List D → List PyData
  | [] => []
  | x :: xs => datP x :: datPs xs
end
theorem datPs_map : ∀ xs : List D, datPs xs = xs.map datP
  | [] => rfl
  | x :: xs => by simp only [datPs, datPs_map xs, List.map_cons]
/-- plain, of a depth of n at most -/
def okD : Nat → D → Bool
  | _, .non => true
  | _, .int _ => true
  | _, .str _ => true
  | n + 1, .tup xs => xs.all (okD n)
  | _, _ => false
theorem okD_up : ∀ (n : Nat) (d : D) (m : Nat), okD n d = true → n ≤ m → okD m d = true
  | n, .non, m, _, _ => by unfold okD; rfl
  | n, .int _, m, _, _ => by unfold okD; rfl
  | n, .str _, m, _, _ => by unfold okD; rfl
  | n, .bl _, m, h, _ => by cases n <;> simp [okD] at h
  | n, .loc _, m, h, _ => by cases n <;> simp [okD] at h
  | 0, .tup xs, m, h, _ => by simp [okD] at h
  | n + 1, .tup xs, 0, h, hl => by omega
  | n + 1, .tup xs, m + 1, h, hl => by
    simp only [okD, List.all_eq_true] at h ⊢
    exact fun x hx => okD_up n x m (h x hx) (by omega)
theorem mapM_ok {f : D → Option PyData} {g : D → PyData} : ∀ {xs : List D}, (∀ x ∈ xs, f x = some (g x)) → xs.mapM f = some (xs.map g)
  | [], _ => rfl
  | x :: xs, h => by
    rw [List.mapM_cons, h x (by simp), mapM_ok fun y hy => h y (by simp [hy])]
    rfl
theorem dat_ok {s : S} : ∀ (n : Nat) (d : D) (m : Nat), okD n d = true → n ≤ m → dat s m d = some (datP d)
  | n, .non, m, _, _ => by simp only [dat, datP]
  | n, .int _, m, _, _ => by simp only [dat, datP]
  | n, .str _, m, _, _ => by simp only [dat, datP]
  | n, .bl _, m, h, _ => by cases n <;> simp [okD] at h
  | n, .loc _, m, h, _ => by cases n <;> simp [okD] at h
  | 0, .tup xs, m, h, _ => by simp [okD] at h
  | n + 1, .tup xs, 0, h, hl => by omega
  | n + 1, .tup xs, m + 1, h, hl => by
    simp only [okD, List.all_eq_true] at h
    simp only [dat, datP, datPs_map]
    rw [mapM_ok fun x hx => dat_ok n x m (h x hx) (by omega)]
    rfl
theorem dats_ok {s : S} {n m : Nat} {xs : List D} (h : ∀ x ∈ xs, okD n x = true) (hl : n ≤ m) : xs.mapM (dat s m) = some (xs.map datP) := mapM_ok fun x hx => dat_ok n x m (h x hx) hl
mutual
theorem eqv_ok : ∀ (n : Nat) (x y : D) (m : Nat), okD n x = true → okD m y = true → PyData.eqv (datP x) (datP y) = decide (x = y)
  | n, .bl _, _, _, h, _ => by cases n <;> simp [okD] at h
  | n, .loc _, _, _, h, _ => by cases n <;> simp [okD] at h
  | n, .non, y, m, _, h => by cases y <;> first | (cases m <;> simp [okD] at h; done) | simp [datP, PyData.eqv]
  | n, .int i, y, m, _, h => by
    cases y <;> first | (cases m <;> simp [okD] at h; done) | (simp [datP, PyData.eqv]; done) | (simp only [datP, PyData.eqv, D.int.injEq]; rw [Bool.beq_eq_decide_eq])
  | n, .str i, y, m, _, h => by
    cases y <;> first | (cases m <;> simp [okD] at h; done) | (simp [datP, PyData.eqv]; done) | (simp only [datP, PyData.eqv, D.str.injEq]; rw [Bool.beq_eq_decide_eq])
  | n + 1, .tup xs, y, m, h, h2 => by
    simp only [okD, List.all_eq_true] at h
    cases y with
    | tup ys =>
      cases m with
      | zero => simp [okD] at h2
      | succ m =>
        simp only [okD, List.all_eq_true] at h2
        simp only [datP, PyData.eqv, D.tup.injEq]
        exact eqvs_ok n xs ys m h h2
    | bl _ => cases m <;> simp [okD] at h2
    | loc _ => cases m <;> simp [okD] at h2
    | _ => simp [datP, PyData.eqv]
  | 0, .tup xs, _, _, h, _ => by simp [okD] at h
theorem eqvs_ok : ∀ (n : Nat) (xs ys : List D) (m : Nat), (∀ x ∈ xs, okD n x = true) → (∀ y ∈ ys, okD m y = true) → PyData.eqvAll (datPs xs) (datPs ys) = decide (xs = ys)
  | n, [], [], _, _, _ => by simp [datPs, PyData.eqvAll]
  | n, [], _ :: _, _, _, _ => by simp [datPs, PyData.eqvAll]
  | n, _ :: _, [], _, _, _ => by simp [datPs, PyData.eqvAll]
  | n, x :: xs, y :: ys, m, h, h2 => by
    simp only [datPs, PyData.eqvAll]
    rw [eqv_ok n x y m (h x (by simp)) (h2 y (by simp)), eqvs_ok n xs ys m (fun z hz => h z (by simp [hz])) (fun z hz => h2 z (by simp [hz]))]
    rw [Bool.eq_iff_iff]
    simp
end
/-- a value's place -/
theorem place_ok {n : Nat} {xs : List D} {y : D} (h : ∀ x ∈ xs, okD n x = true) (hy : okD n y = true) : dataPlace (xs.map datP) (datP y) = xs.findIdx? (fun x => decide (x = y)) := by
  unfold dataPlace
  induction xs with
  | nil => rfl
  | cons x xs ih =>
    rw [List.map_cons, List.findIdx?_cons, List.findIdx?_cons, eqv_ok n x y n (h x (by simp)) hy, ih fun z hz => h z (by simp [hz])]
theorem any_ok {n : Nat} {xs : List D} {y : D} (h : ∀ x ∈ xs, okD n x = true) (hy : okD n y = true) : ((xs.map datP).any fun z => PyData.eqv z (datP y)) = decide (y ∈ xs) := by
  induction xs with
  | nil => simp
  | cons x xs ih =>
    rw [List.map_cons, List.any_cons, eqv_ok n x y n (h x (by simp)) hy, ih fun z hz => h z (by simp [hz]), Bool.eq_iff_iff, Bool.or_eq_true, decide_eq_true_iff, decide_eq_true_iff, decide_eq_true_iff, List.mem_cons]
    exact or_congr ⟨Eq.symm, Eq.symm⟩ Iff.rfl
/-! ### sorting -/
theorem toks_inj {x y : PyData} (h : alike x y = true) (e : keyToks x = keyToks y) : PyData.eqv x y = true := by
  cases q : PyData.eqv x y with
  | true => rfl
  | false =>
    have := (toks_eqv x y h).2 q
    have a := this [] [.inl 0]
    have b := this [.inl 0] []
    rw [e] at a b
    rw [lex_pre] at a b
    rw [← b] at a
    simp [PyProof.Rows.lexLt] at a
def alikeL (xs : List D) : Prop := ∀ x ∈ xs, ∀ y ∈ xs, alike (datP x) (datP y) = true
theorem datD_ok {s : S} {n : Nat} {d : D} (h : okD n d = true) (hn : n ≤ 50) : datD s d = datP d := by
  unfold datD
  rw [dat_ok n d 50 h hn]
  rfl
theorem sort_perm {s : S} {rev : Bool} {xs : List D} : (sortS s rev xs).Perm xs := List.mergeSort_perm _ _
/-- a sorted list hangs on the items alone -/
theorem sort_canon {s t : S} {rev : Bool} {n : Nat} {xs ys : List D} (hn : n ≤ 50) (ho : ∀ x ∈ xs, okD n x = true) (ha : alikeL xs) (hp : xs.Perm ys) : sortS s rev xs = sortS t rev ys := by
  have T := sortLe_total (PyProof.Rows.listOrd PyProof.Rows.itemOrd) rev fun b => keyToks (datP b)
  have e1 : ∀ (u : S) (zs : List D), (∀ x ∈ zs, okD n x = true) → sortS u rev zs = zs.mergeSort (dataLe rev datP) := fun u zs hz => by
    unfold sortS
    refine sort_congr fun a ha b hb => ?_
    unfold dataLe sortLe
    simp only
    rw [datD_ok (hz a ha) hn, datD_ok (hz b hb) hn]
  rw [e1 s xs ho, e1 t ys fun y hy => ho y (hp.mem_iff.mpr hy)]
  refine List.Perm.eq_of_pairwise (le := fun a b => dataLe rev datP a b = true) (fun a b ha1 hb1 h1 h2 => ?_) (List.pairwise_mergeSort T.trans (fun a b => by rw [Bool.or_eq_true]; exact T.total a b) xs) (List.pairwise_mergeSort T.trans (fun a b => by rw [Bool.or_eq_true]; exact T.total a b) ys) (((List.mergeSort_perm xs _).trans hp).trans (List.mergeSort_perm ys _).symm)
  have ax : a ∈ xs := (List.mergeSort_perm xs _).mem_iff.mp ha1
  have bx : b ∈ xs := hp.mem_iff.mpr ((List.mergeSort_perm ys _).mem_iff.mp hb1)
  have q : keyToks (datP a) = keyToks (datP b) := by
    unfold dataLe sortLe at h1 h2
    cases rev <;> simp only [cond_true, cond_false, Bool.not_eq_true'] at h1 h2
    · exact (PyProof.Rows.listOrd PyProof.Rows.itemOrd).total _ _ h2 h1
    · exact (PyProof.Rows.listOrd PyProof.Rows.itemOrd).total _ _ h1 h2
  have := toks_inj (ha a ax b bx) q
  rw [eqv_ok n a b n (ho a ax) (ho b bx)] at this
  exact of_decide_eq_true this
end PL
namespace PL
open PySem PySem.W PySem.SeqAt
section
variable {s : S} {Q : Post} {l n : Nat} {xs : List D}
theorem seqAt_up {p : Nat} : seqAt (s.up p (.lst xs)) p = some xs := by unfold seqAt; rw [S.up_same]
theorem allAlike_of (ha : alikeL xs) : AllAlike (xs.map datP) := fun d hd e he => by
  obtain ⟨x, hx, rfl⟩ := List.mem_map.mp hd
  obtain ⟨y, hy, rfl⟩ := List.mem_map.mp he
  exact ha x hx y hy
theorem w_sorted {x : D} {rev : Bool} (hi : itemsOf s x = some xs) (ho : ∀ x ∈ xs, okD n x = true) (hn : n ≤ 50) (ha : alikeL xs) (hs : Sortable (xs.map datP)) (q : ∀ p, s p = none → Q (.loc p) (s.up p (.lst (sortS s rev xs)))) : wpSorted rev [x] s Q :=
  ⟨xs, xs.map datP, hi, ⟨dats_ok ho hn, allAlike_of ha, hs⟩, q⟩
theorem find_nodup {one : D} : ∀ {xs : List D} {j : Nat}, xs.Nodup → xs[j]? = some one → xs.findIdx? (fun y => decide (y = one)) = some j
  | [], j, _, h => by simp at h
  | x :: xs, 0, _, h => by
    simp at h; subst h
    simp [List.findIdx?_cons]
  | x :: xs, j + 1, nd, h => by
    rw [List.nodup_cons] at nd
    have h' : xs[j]? = some one := by simpa using h
    have hm := List.mem_of_getElem? h'
    rw [List.findIdx?_cons, find_nodup nd.2 h']
    rw [if_neg]
    · rfl
    · rw [decide_eq_true_iff]
      rintro rfl
      exact nd.1 hm
theorem w_index {x : D} {j : Nat} (hs : seqAt s l = some xs) (ho : ∀ x ∈ xs, okD n x = true) (hx : okD n x = true) (hn : n ≤ 50) (hf : xs.findIdx? (fun y => decide (y = x)) = some j) (q : Q (.int j) s) : wpIndex (.loc l) [x] s Q :=
  ⟨xs, xs.map datP, datP x, j, hs, dats_ok ho (by omega), dat_ok n x 60 hx (by omega), by rw [place_ok ho hx]; exact hf, q⟩
theorem w_remove {x : D} {j : Nat} (hs : s l = some (.lst xs)) (ho : ∀ x ∈ xs, okD n x = true) (hx : okD n x = true) (hn : n ≤ 50) (hf : xs.findIdx? (fun y => decide (y = x)) = some j) (q : Q .non (s.up l (.lst (xs.eraseIdx j)))) : wpRemove (.loc l) [x] s Q :=
  ⟨xs, xs.map datP, datP x, j, hs, dats_ok ho (by omega), dat_ok n x 60 hx (by omega), by rw [place_ok ho hx]; exact hf, q⟩
theorem w_popAt {i : Int} {j : Nat} {d : D} (hs : s l = some (.lst xs)) (hi : i = j) (hj : xs[j]? = some d) (hl : xs.length ≤ lim) (q : Q d (s.up l (.lst (xs.eraseIdx j)))) : wpPopAt (.loc l) [.int i] s Q := by
  have hlt := (List.getElem?_eq_some_iff.mp hj).1
  have hb : j < 16777216 := Nat.lt_of_lt_of_le hlt hl
  refine ⟨xs, j, d, hs, by subst hi; omega, ?_, hj, q⟩
  unfold ixOf
  subst hi
  rw [if_pos (by omega), if_pos (by omega)]
  rfl
theorem ix_nat {n j : Nat} (h : j < n) : ixOf n (j : Int) = some j := by
  unfold ixOf
  rw [if_pos (by omega), if_pos (by omega)]
  rfl
theorem at_nat {j : Nat} {d : D} (h : xs[j]? = some d) : atD xs (j : Int) = some d := by
  unfold atD
  rw [ix_nat (List.getElem?_eq_some_iff.mp h).1]
  exact h
theorem w_eq {op : Bool} {x y : D} (hx : okD n x = true) (hy : okD n y = true) (hn : n ≤ 50) (q : Q (.bl (if op = true then decide (x = y) else !decide (x = y))) s) : wpCm (if op = true then .eq else .ne) x y s Q := by
  cases op
  · rw [if_neg (by simp)] at q ⊢
    exact ⟨_, _, dat_ok n x 60 hx (by omega), dat_ok n y 60 hy (by omega), by rw [eqv_ok n x y n hx hy]; exact q⟩
  · rw [if_pos rfl] at q ⊢
    exact ⟨_, _, dat_ok n x 60 hx (by omega), dat_ok n y 60 hy (by omega), by rw [eqv_ok n x y n hx hy]; exact q⟩
end
end PL
end

section
set_option Elab.async false
set_option linter.all false
set_option maxRecDepth 100000
set_option maxHeartbeats 0
namespace PL
open PySem PySem.W PySem.SeqAt
section
variable {s : S} {Q : Post} {l n : Nat} {xs : List D}
theorem rv_lst {m : Mt} (hm : m ≠ .get1 ∧ m ≠ .get2) (hs : s l = some (.lst xs)) : recvB m (.loc l) s = true := by
  have : (seqAt s l).isSome = true := by unfold seqAt; rw [hs]; rfl
  cases m <;> first | exact this | exact absurd rfl hm.1 | exact absurd rfl hm.2
theorem w_app {x : D} (hs : s l = some (.lst xs)) (hl : xs.length < lim) (q : Q .non (s.up l (.lst (xs ++ [x])))) : wpAppend (.loc l) [x] s Q := ⟨xs, hs, hl, q⟩
theorem S.none_of {t : S} {a b : Nat} {o : O} (h : t.up a o b = none) : t b = none := by
  unfold S.up at h
  split at h
  · cases h
  · exact h
theorem w_ixL {i : Int} {j : Nat} {d : D} (hs : seqAt s l = some xs) (hi : i = j) (hj : xs[j]? = some d) (q : Q d s) : wpIx (.loc l) (.int i) s Q := by
  subst hi
  exact .inl ⟨xs, j, d, rfl, hs, at_nat hj, q⟩
theorem w_ixT {i : Int} {j : Nat} {d : D} (hi : i = j) (hj : xs[j]? = some d) (q : Q d s) : wpIx (.tup xs) (.int i) s Q := by
  subst hi
  exact ⟨d, at_nat hj, q⟩
end
end PL
namespace PLaw
open PySem PySem.W PySem.SeqAt
open PL hiding St
abbrev St := PL.St
local macro_rules | `(tactic| rotate_right) => `(tactic| simp -implicitDefEqProofs only [st_asg, st_ife, st_ret, st_retN, st_expr, st_nil, st_cons, st_augS, tg_name, wpE, wpT, wpEs, wpO, wpC, wpAnd, wpOr, wpAndT, wpOrT, wpBin, wpBi, wpLen, wpAbs, wpInt, wpAug, wpMt,
  List.getD_cons_zero, List.getD_cons_succ, List.set_cons_zero, List.set_cons_succ, startV, List.map_cons, List.map_nil, List.length_cons, List.length_nil, Nat.reduceAdd, Nat.reduceSub, List.replicate, List.cons_append, List.nil_append, if_true, if_false, Bool.false_eq_true, reduceIte])
/-! ## what the laws share: the draws, the next draw, alike -/
def fDraws : Fn := ⟨2, 8,
  [
    .asg (.name 2) (.lst []),
    .asg (.name 3) (.int 7),
    .for (.name 4) (.rng [(.bi .len [(.var 0)])])
      [
        .asg (.name 5) (.bi .abs [(.bi .int [(.ix (.var 0) (.var 4))])]),
        .asg (.name 3) (.bin .mod (.bi .int [(.bin .add (.bin .add (.bin .mul (.var 3) (.int 48271)) (.bin .mod (.var 5) (.int 1000003))) (.var 4))]) (.int 65537)),
        .asg (.name 6) (.int 0),
        .ife (.cmp .ge (.var 5) (.bin .pow (.int 10) (.int 18)))
          [
            .asg (.name 6) (.var 5)]
          [
            .expr (.mt .append (.var 2) [(.bin .mod (.bi .int [(.var 5)]) (.int 997))]),
            .expr (.mt .append (.var 2) [(.bin .mod (.bin .mod (.bi .int [(.bin .add (.bin .mul (.var 3) (.int 69621)) (.int 5))]) (.int 65521)) (.int 997))])],
        .for (.name 7) (.rng [(.int 60)])
          [
            .ife (.cmp .gt (.var 6) (.int 0))
              [
                .expr (.mt .append (.var 2) [(.bin .mod (.bi .int [(.var 6)]) (.int 997))]),
                .asg (.name 6) (.bin .fdiv (.var 6) (.int 997))]
              []]],
    .for (.name 4) (.rng [(.var 1)])
      [
        .asg (.name 3) (.bin .mod (.bi .int [(.bin .add (.bin .add (.bin .mul (.var 3) (.int 16807)) (.var 4)) (.int 1))]) (.int 65537)),
        .expr (.mt .append (.var 2) [(.bin .mod (.bi .int [(.var 3)]) (.int 997))])],
    .ret (.sl (.var 2) none (some (.var 1)))]⟩
/-- the draws: whole numbers from 0 -/
def Dr (xs : List D) : Prop := ∀ x ∈ xs, ∃ n : Nat, n < 997 ∧ x = .int n
theorem Dr.snoc {xs : List D} (h : Dr xs) (i : Int) : Dr (xs ++ [.int (i % 997)]) := fun x hx => by
  rcases List.mem_append.mp hx with hx | hx
  · exact h x hx
  · simp only [List.mem_singleton] at hx
    exact ⟨(i % 997).toNat, by omega, by rw [hx]; congr 1; omega⟩
theorem sp_draws {P : Prog} {j k many : Nat} {ns : List Int} {s : S} {Q : Post} (hP : P[j]? = some fDraws) (h0 : s 0 = some (.rol (ns.map D.int))) (hl : ns.length ≤ 63) (hm : many ≤ 1000)
    (q : ∀ (p : Nat) (xs : List D), s p = none → Dr xs → xs.length ≤ many → Q (.loc p) (s.up p (.lst xs))) : wpF P (k + 1) j [.loc 0, .int many] s Q := by
  refine wpF_call hP rfl ?_
  unfold fDraws
  rotate_right
  intro p hp
  have hp0 : (0 : Nat) ≠ p := S.ne_of h0 hp
  refine for_of (wpF_mono _ _) (I_rng1 (wpF_mono _ _) ?_)
  rotate_right
  rw [S.up_ne hp0, h0]
  rotate_right
  refine ⟨ns.length, by simp, by omega, fun i ρ s' => ∃ (xs : List D) (mixed : Int) (v4 v5 v6 v7 : Option D), s' = s.up p (.lst xs) ∧ Dr xs ∧ xs.length ≤ 62 * i ∧ 0 ≤ mixed ∧ mixed < 65537 ∧ ρ = [some (.loc 0), some (.int many), some (.loc p), some (.int mixed), v4, v5, v6, v7],
    ⟨[], 7, none, none, none, none, rfl, fun x hx => absurd hx (by simp), by simp, by omega, by omega, rfl⟩, ?_, ?_⟩
  · rintro i x ρ s' hx ⟨xs, mixed, v4, v5, v6, v7, rfl, dr, hxl, m0, m1, rfl⟩
    obtain ⟨hi, rfl⟩ := rangeL_at hx
    have hi : i < ns.length := by omega
    refine ⟨trivial, ?_⟩
    rotate_right
    refine w_ixL (j := i) (xs := ns.map D.int) (by unfold seqAt; rw [S.up_ne hp0, h0]) (by omega) (d := .int ns[i]) (by rw [List.getElem?_map, List.getElem?_eq_getElem hi]; rfl) ?_
    rotate_right
    generalize hcell : (if ns[i] < 0 then -ns[i] else ns[i]) = cell
    have hc0 : 0 ≤ cell := by rw [← hcell]; split <;> omega
    refine ⟨.inl (by omega), by omega, by omega, ?_⟩
    generalize hmix : (mixed * 48271 + cell % 1000003 + (0 + (i : Int) * 1)) % 65537 = mx
    have hmx : 0 ≤ mx ∧ mx < 65537 := by rw [← hmix]; omega
    refine ⟨⟨by omega, by omega, by decide⟩, ?_⟩
    simp -implicitDefEqProofs only [wpCm]
    -- the loop over the rest
    have rest : ∀ (Kx : Ds) (ys : List D) (r : Int) (u4 u5 u7 : Option D), Dr ys → ys.length ≤ 62 * i + 2 → 0 ≤ r →
        (∀ ρ' s', (∃ s0 : S, s0.le s' ∧ ∃ (xs : List D) (mixed : Int) (v4 v5 v6 v7 : Option D), s0 = s.up p (.lst xs) ∧ Dr xs ∧ xs.length ≤ 62 * (i + 1) ∧ 0 ≤ mixed ∧ mixed < 65537 ∧ ρ' = [some (.loc 0), some (.int many), some (.loc p), some (.int mixed), v4, v5, v6, v7]) → Kx.nx ρ' s') →
        wpS (wpF P k) (.for (.name 7) (.rng [(.int 60)]) [.ife (.cmp .gt (.var 6) (.int 0)) [.expr (.mt .append (.var 2) [(.bin .mod (.bi .int [(.var 6)]) (.int 997))]), .asg (.name 6) (.bin .fdiv (.var 6) (.int 997))] []])
          Kx
          [some (.loc 0), some (.int many), some (.loc p), some (.int mx), u4, u5, some (.int r), u7] (s.up p (.lst ys)) := by
      intro Kx ys r u4 u5 u7 dy hy hr hK
      refine for_of (wpF_mono _ _) (I_rng1 (wpF_mono _ _) ?_)
      rotate_right
      refine ⟨60, rfl, by omega, fun i2 ρ s' => ∃ (xs : List D) (r : Int) (v7 : Option D), s' = s.up p (.lst xs) ∧ Dr xs ∧ 0 ≤ r ∧ xs.length ≤ 62 * i + 2 + i2 ∧ ρ = [some (.loc 0), some (.int many), some (.loc p), some (.int mx), u4, u5, some (.int r), v7],
        ⟨ys, r, u7, rfl, dy, hr, by omega, rfl⟩, ?_, ?_⟩
      · rintro i2 x ρ s' hx ⟨xs, r, v7, rfl, dr, hr, h1, rfl⟩
        obtain ⟨hi2, rfl⟩ := rangeL_at hx
        refine ⟨trivial, ?_⟩
        rotate_right
        simp -implicitDefEqProofs only [wpCm]
        by_cases hz : (0 : Int) < r
        · rw [decide_eq_true hz]
          rotate_right
          refine ⟨rv_lst ⟨nofun, nofun⟩ S.up_same, by omega, w_app S.up_same (by show _ < 16777216; omega) ?_⟩
          rotate_right
          exact ⟨by omega, _, S.le_refl _, xs ++ [.int (r % 997)], r / 997, _, S.up_up, dr.snoc r, by omega, by simp; omega, rfl⟩
        · rw [decide_eq_false hz]
          rotate_right
          exact ⟨_, S.le_refl _, xs, r, _, rfl, dr, hr, by omega, rfl⟩
      · rintro ρ s' ⟨xs, r, v7, rfl, dr, hr, h1, rfl⟩
        rw [rangeL_len] at h1
        exact ⟨trivial, hK _ _ ⟨_, S.le_refl _, xs, mx, u4, u5, _, v7, rfl, dr, by omega, hmx.1, hmx.2, rfl⟩⟩
    by_cases hb : (10 : Int) ^ 18 ≤ cell
    · rw [show decide ((10 : Int) ^ (18 : Int).toNat ≤ cell) = true from decide_eq_true hb]
      rotate_right
      exact rest _ _ _ _ _ _ dr (by omega) hc0 fun _ _ h => h
    · rw [show decide ((10 : Int) ^ (18 : Int).toNat ≤ cell) = false from decide_eq_false hb]
      rotate_right
      refine ⟨rv_lst ⟨nofun, nofun⟩ S.up_same, by omega, w_app S.up_same (by show _ < 16777216; omega) ?_⟩
      rw [S.up_up]
      refine ⟨rv_lst ⟨nofun, nofun⟩ S.up_same, .inl (by omega), by omega, by omega, w_app S.up_same (by show _ < 16777216; simp; omega) ?_⟩
      rw [S.up_up]
      exact rest _ _ _ _ _ _ ((dr.snoc _).snoc _) (by simp; omega) (by omega) fun _ _ h => h
  · rintro ρ s' ⟨xs, mixed, v4, v5, v6, v7, rfl, dr, hxl, m0, m1, rfl⟩
    rw [rangeL_len] at hxl
    refine ⟨trivial, ?_⟩
    refine for_of (wpF_mono _ _) (I_rng1 (wpF_mono _ _) ?_)
    rotate_right
    refine ⟨many, rfl, by omega, fun i ρ s' => ∃ (xs : List D) (mixed : Int) (v4 v5 v6 v7 : Option D), s' = s.up p (.lst xs) ∧ Dr xs ∧ xs.length ≤ 62 * 63 + i ∧ 0 ≤ mixed ∧ mixed < 65537 ∧ ρ = [some (.loc 0), some (.int many), some (.loc p), some (.int mixed), v4, v5, v6, v7],
      ⟨xs, mixed, v4, v5, v6, v7, rfl, dr, by omega, m0, m1, rfl⟩, ?_, ?_⟩
    · rintro i x ρ s' hx ⟨xs, mixed, v4, v5, v6, v7, rfl, dr, hxl, m0, m1, rfl⟩
      obtain ⟨hi, rfl⟩ := rangeL_at hx
      refine ⟨trivial, ?_⟩
      rotate_right
      refine ⟨.inl (by omega), by omega, rv_lst ⟨nofun, nofun⟩ S.up_same, by omega, w_app S.up_same (by show _ < 16777216; omega) ?_⟩
      exact ⟨_, S.le_refl _, xs ++ [.int ((mixed * 16807 + (0 + (i : Int) * 1) + 1) % 65537 % 997)], (mixed * 16807 + (0 + (i : Int) * 1) + 1) % 65537, _, _, _, _, S.up_up, dr.snoc _, by simp; omega, by omega, by omega, rfl⟩
    · rintro ρ s' ⟨xs, mixed, v4, v5, v6, v7, rfl, dr, hxl, m0, m1, rfl⟩
      refine ⟨trivial, ?_⟩
      rotate_right
      refine ⟨xs, seqAt_up, fun p2 hp2 => ?_⟩
      have h2 : s p2 = none := S.none_of hp2
      refine ⟨s.up p2 (.lst (cutD xs none (some (many : Int)))), S.up_le (S.le_up hp), q p2 _ h2 (fun x hx => dr x ?_) ?_⟩
      · exact List.mem_of_mem_drop (List.mem_of_mem_take hx)
      · unfold cutD
        rw [List.length_take]
        simp only [cutIx]
        rw [if_neg (by omega)]
        omega
def fNext : Fn := ⟨2, 2,
  [
    .augS (.var 0) (.str "at") .add (.int 1),
    .ife (.cmp .gt (.ix (.var 0) (.str "at")) (.bi .len [(.ix (.var 0) (.str "draws"))]))
      [
        .ret (.int 0)]
      [],
    .ret (.bin .mod (.bi .int [(.ix (.ix (.var 0) (.str "draws")) (.bin .sub (.ix (.var 0) (.str "at")) (.int 1)))]) (.var 1))]⟩
/-- the dict of the draws at w: so many are drawn -/
def wO (q a : Nat) : O := .dic [(.str "draws", .loc q), (.str "at", .int a)]
theorem wO_draws {q a : Nat} : dget [(.str "draws", .loc q), (.str "at", .int a)] (.str "draws") = some (.loc q) := by
  unfold dget
  rw [List.find?_cons_of_pos (by rw [beq_iff])]
  rfl
theorem str_ne : ¬ (("draws" : Str) = "at") := by decide +kernel
theorem wO_at {q a : Nat} : dget [(.str "draws", .loc q), (.str "at", .int a)] (.str "at") = some (.int a) := by
  unfold dget
  rw [List.find?_cons_of_neg (by rw [beq_iff]; intro h; exact str_ne (D.str.inj h)), List.find?_cons_of_pos (by rw [beq_iff])]
  rfl
theorem wO_put {q a : Nat} {d : D} : dput [(.str "draws", .loc q), (.str "at", .int a)] (.str "at") d = [(.str "draws", .loc q), (.str "at", d)] := by
  have h1 : D.beq (.str "draws") (.str "at") = false := by
    rw [Bool.eq_false_iff]; intro h; rw [beq_iff] at h; exact str_ne (D.str.inj h)
  have h2 : D.beq (.str "at") (.str "at") = true := by rw [beq_iff]
  unfold dput
  simp [h1, h2]
theorem sp_next {P : Prog} {j k m w q a : Nat} {xs : List D} {s : S} {Q : Post} (hP : P[j]? = some fNext) (hw : s w = some (wO q a)) (hq : s q = some (.lst xs)) (dr : Dr xs) (hl : xs.length ≤ 1000) (hm : 0 < m)
    (post : ∀ r : Nat, r < m → Q (.int r) (s.up w (wO q (a + 1)))) : wpF P (k + 1) j [.loc w, .int m] s Q := by
  have hwq : q ≠ w := by
    rintro rfl
    rw [hw] at hq
    cases hq
  refine wpF_call hP rfl ?_
  unfold fNext
  rotate_right
  simp -implicitDefEqProofs only [wpGet]
  refine .inr ⟨_, .int a, hw, rfl, wO_at, ?_⟩
  rotate_right
  refine .inr ⟨_, hw, rfl, by show 2 < 16777216; decide, ?_⟩
  rw [wO_put, show ((a : Int) + 1) = ((a + 1 : Nat) : Int) from by push_cast; rfl]
  have e1 : (s.up w (wO q (a + 1))) w = some (wO q (a + 1)) := S.up_same
  have e2 : (s.up w (wO q (a + 1))) q = some (.lst xs) := by rw [S.up_ne hwq]; exact hq
  have e3 : seqAt (s.up w (wO q (a + 1))) q = some xs := by unfold seqAt; rw [e2]
  show wpIx (.loc w) (.str "at") (s.up w (wO q (a + 1))) _
  refine .inr ⟨_, .int (a + 1 : Nat), e1, rfl, wO_at, ?_⟩
  refine .inr ⟨_, .loc q, e1, rfl, wO_draws, ?_⟩
  rotate_right
  rw [e2]
  rotate_right
  simp -implicitDefEqProofs only [wpCm]
  by_cases hz : (xs.length : Int) < ((a + 1 : Nat) : Int)
  · rw [decide_eq_true hz]
    rotate_right
    exact ⟨_, S.le_refl _, post 0 hm⟩
  · rw [decide_eq_false hz]
    rotate_right
    refine .inr ⟨_, .loc q, e1, rfl, wO_draws, ?_⟩
    refine .inr ⟨_, .int (a + 1 : Nat), e1, rfl, wO_at, ?_⟩
    rotate_right
    have ha : a < xs.length := by omega
    obtain ⟨n, hn, e⟩ := dr xs[a] (List.getElem_mem ha)
    refine w_ixL (j := a) e3 (by omega) (List.getElem?_eq_getElem ha) ?_
    rw [e]
    rotate_right
    refine ⟨by omega, _, S.le_refl _, ?_⟩
    have := post (n % m) (Nat.mod_lt _ hm)
    rwa [show ((n % m : Nat) : Int) = (n : Int) % (m : Int) from by push_cast; rfl] at this
end PLaw
end

section
set_option Elab.async false
set_option linter.all false
set_option maxRecDepth 100000
set_option maxHeartbeats 0
namespace PLaw
open PySem PySem.W PySem.SeqAt
open PL hiding St
local macro_rules | `(tactic| rotate_right) => `(tactic| simp -implicitDefEqProofs only [st_asg, st_ife, st_ret, st_retN, st_expr, st_nil, st_cons, st_augS, tg_name, wpE, wpT, wpEs, wpO, wpC, wpAnd, wpOr, wpAndT, wpOrT, wpBin, wpBi, wpLen, wpAbs, wpInt, wpAug, wpMt, tru_bl,
  List.getD_cons_zero, List.getD_cons_succ, List.set_cons_zero, List.set_cons_succ, startV, List.map_cons, List.map_nil, List.length_cons, List.length_nil, Nat.reduceAdd, Nat.reduceSub, List.replicate, List.cons_append, List.nil_append, if_true, if_false, Bool.false_eq_true, reduceIte, Bool.not_true, Bool.not_false])
def fAlike (j : Nat) : Fn := ⟨2, 3,
  [
    .ife (.val (.bi (.isi .tuple) [(.var 1)]))
      [
        .ife (.or [(.not (.val (.bi (.isi .tuple) [(.var 0)]))), (.cmp .ne (.bi .len [(.var 0)]) (.bi .len [(.var 1)]))])
          [
            .ret (.bl false)]
          [],
        .ret (.cmp .eq (.comp (.var 2) [2] false (.rng [(.bi .len [(.var 1)])]) (some (.not (.val (.call j [(.ix (.var 0) (.var 2)), (.ix (.var 1) (.var 2))])))) [2]) (.lst []))]
      [],
    .ife (.isN false (.var 1))
      [
        .ret (.isN false (.var 0))]
      [],
    .ife (.val (.bi (.isi .bool) [(.var 1)]))
      [
        .ret (.and [(.bi (.isi .bool) [(.var 0)]), (.cmp .eq (.var 0) (.var 1))])]
      [],
    .ife (.val (.bi (.isi .int) [(.var 1)]))
      [
        .ret (.and [(.bi (.isi .int) [(.var 0)]), (.not (.bi (.isi .bool) [(.var 0)])), (.cmp .eq (.var 0) (.var 1))])]
      [],
    .ret (.and [(.bi (.isi .str) [(.var 0)]), (.cmp .eq (.var 0) (.var 1))])]⟩
theorem w_isi {c : Cl} {d : D} {s : S} {Q : Post} {b : Bool} (h : isCl s c d = some b) (q : Q (.bl b) s) : wpIsi c [d] s Q := ⟨b, h, q⟩

theorem al_int {P : Prog} {j : Nat} (hP : P[j]? = some (fAlike j)) (i : Int) (k : Nat) (s : S) (Q : Post) (q : Q (.bl true) s) : wpF P (k + 1) j [.int i, .int i] s Q := by
  refine wpF_call hP rfl ?_
  unfold fAlike
  rotate_right
  refine w_isi (b := false) rfl ?_
  rotate_right
  refine w_isi (b := false) rfl ?_
  rotate_right
  refine w_isi (b := true) rfl ?_
  rotate_right
  refine w_isi (b := true) rfl ?_
  rotate_right
  refine w_isi (b := false) rfl ?_
  rotate_right
  refine w_eq (op := true) (n := 0) rfl rfl (by omega) ?_
  rw [if_pos rfl, decide_eq_true rfl]
  exact ⟨s, S.le_refl _, q⟩
theorem al_str {P : Prog} {j : Nat} (hP : P[j]? = some (fAlike j)) (i : Str) (k : Nat) (s : S) (Q : Post) (q : Q (.bl true) s) : wpF P (k + 1) j [.str i, .str i] s Q := by
  refine wpF_call hP rfl ?_
  unfold fAlike
  rotate_right
  refine w_isi (b := false) rfl ?_
  rotate_right
  refine w_isi (b := false) rfl ?_
  rotate_right
  refine w_isi (b := false) rfl ?_
  rotate_right
  refine w_isi (b := true) rfl ?_
  rotate_right
  refine w_eq (op := true) (n := 0) rfl rfl (by omega) ?_
  rw [if_pos rfl, decide_eq_true rfl]
  exact ⟨s, S.le_refl _, q⟩
theorem al_bl {P : Prog} {j : Nat} (hP : P[j]? = some (fAlike j)) (b : Bool) (k : Nat) (s : S) (Q : Post) (q : Q (.bl true) s) : wpF P (k + 1) j [.bl b, .bl b] s Q := by
  refine wpF_call hP rfl ?_
  unfold fAlike
  rotate_right
  refine w_isi (b := false) rfl ?_
  rotate_right
  refine w_isi (b := true) rfl ?_
  rotate_right
  refine w_isi (b := true) rfl ?_
  rotate_right
  refine ⟨.bool b, .bool b, by simp only [dat], by simp only [dat], ?_⟩
  rw [show PyData.eqv (.bool b) (.bool b) = true from by simp [PyData.eqv]]
  exact ⟨s, S.le_refl _, q⟩
theorem al_non {P : Prog} {j : Nat} (hP : P[j]? = some (fAlike j)) (k : Nat) (s : S) (Q : Post) (q : Q (.bl true) s) : wpF P (k + 1) j [.non, .non] s Q := by
  refine wpF_call hP rfl ?_
  unfold fAlike
  rotate_right
  refine w_isi (b := false) rfl ?_
  rotate_right
  exact ⟨s, S.le_refl _, q⟩
theorem al_tup {P : Prog} {j : Nat} (hP : P[j]? = some (fAlike j)) (xs : List D) (k : Nat) (s : S) (Q : Post) (hl : xs.length ≤ 100000) (ih : ∀ x ∈ xs, ∀ (t : S) (R : Post), R (.bl true) t → wpF P k j [x, x] t R) (q : Q (.bl true) s) : wpF P (k + 1) j [.tup xs, .tup xs] s Q := by
  refine wpF_call hP rfl ?_
  unfold fAlike
  rotate_right
  refine w_isi (b := true) rfl ?_
  rotate_right
  refine w_isi (b := true) rfl ?_
  rotate_right
  refine w_eq (op := false) (n := 0) rfl rfl (by omega) ?_
  rw [if_neg (by simp), decide_eq_true rfl]
  rotate_right
  refine I_rng1 (wpF_mono _ _) ?_
  rotate_right
  refine ⟨xs.length, rfl, by omega, fun p hp => ?_⟩
  rw [Int.toNat_natCast]
  refine compL_of (fun _ => none) hp (by rw [rangeL_len]; show xs.length + 0 ≤ 16777216; omega) (fun _ => trivial) (fun x hx acc kk hk => ?_) ?_
  · obtain ⟨i, hi⟩ := List.getElem?_of_mem hx
    obtain ⟨hl2, rfl⟩ := rangeL_at hi
    simp -implicitDefEqProofs only [PL.bindC, wipeV]
    rotate_right
    refine w_ixT (j := i) (by omega) (List.getElem?_eq_getElem hl2) ?_
    refine w_ixT (j := i) (by omega) (List.getElem?_eq_getElem hl2) ?_
    refine ih _ (List.getElem_mem hl2) _ _ ?_
    rotate_right
    exact hk _ (S.le_refl _)
  · have e0 : (rangeL 0 xs.length 1).filterMap (fun _ => (none : Option D)) = [] := by simp
    rw [List.nil_append, e0]
    intro p2 hp2
    have hne : p ≠ p2 := by
      rintro rfl
      rw [S.up_same] at hp2
      cases hp2
    refine ⟨.list [], .list [], ?_, ?_, ?_⟩
    · simp only [dat]
      unfold seqAt
      rw [S.up_ne hne, S.up_same]
      rfl
    · simp only [dat]
      unfold seqAt
      rw [S.up_same]
      rfl
    · rw [show PyData.eqv (.list []) (.list []) = true from by simp [PyData.eqv, PyData.eqvAll]]
      exact ⟨s, S.le_trans (S.le_up hp) (S.le_up hp2), q⟩
/-- short -/
def shortD : Nat → D → Bool
  | n + 1, .tup xs => decide (xs.length ≤ 100000) && xs.all (shortD n)
  | _, .loc _ => false
  | 0, .tup _ => false
  | _, _ => true
/-- a value is alike itself -/
theorem sp_alike {P : Prog} {j : Nat} (hP : P[j]? = some (fAlike j)) : ∀ (n : Nat) (d : D) (k : Nat) (s : S) (Q : Post), shortD n d = true → Q (.bl true) s → wpF P (k + n + 1) j [d, d] s Q
  | n, .non, k, s, Q, _, q => al_non hP _ s Q q
  | n, .bl b, k, s, Q, _, q => al_bl hP b _ s Q q
  | n, .int i, k, s, Q, _, q => al_int hP i _ s Q q
  | n, .str x, k, s, Q, _, q => al_str hP x _ s Q q
  | n, .loc a, k, s, Q, h, q => by cases n <;> simp [shortD] at h
  | 0, .tup xs, k, s, Q, h, q => by simp [shortD] at h
  | n + 1, .tup xs, k, s, Q, h, q => by
    simp only [shortD, Bool.and_eq_true, decide_eq_true_eq, List.all_eq_true] at h
    exact al_tup hP xs _ s Q h.1 (fun x hx t R r => sp_alike hP n x k t R (h.2 x hx) r) q
end PLaw
end

section
set_option Elab.async false
set_option linter.all false
set_option maxRecDepth 100000
set_option maxHeartbeats 0
namespace K57
open PySem PySem.Spec PyProof.Rows L2
open PL hiding St
abbrev St := PL.St
/-! ### the text as terms -/
def top (i : Nat) : Stmt := PySem.Challenge.pw_trickward_k57_messages_by_orders.main.body.getD i (.Pass ⟨0, 0, 0, 0⟩)
def f_orders : Fn := ⟨1, 3,
  [
    .asg (.name 1) (.int 1),
    .for (.name 2) (.rng [(.int 2), (.bin .add (.var 0) (.int 1))])
      [
        .asg (.name 1) (.bin .mul (.var 1) (.var 2))],
    .ret (.var 1)]⟩
def d_orders : DI := ⟨"orders", ["n"], ["n", "found", "j"], top 1⟩
def f_place_of_order : Fn := ⟨1, 4,
  [
    .asg (.name 1) (.bi .sorted [(.var 0)]),
    .asg (.name 2) (.int 0),
    .for (.name 3) (.val (.var 0))
      [
        .asg (.name 2) (.bin .add (.bin .mul (.var 2) (.bi .len [(.var 1)])) (.mt .index (.var 1) [(.var 3)])),
        .expr (.mt .remove (.var 1) [(.var 3)])],
    .ret (.var 2)]⟩
def d_place_of_order : DI := ⟨"place_of_order", ["order"], ["order", "left", "found", "one"], top 3⟩
def f_order_with : Fn := ⟨2, 6,
  [
    .asg (.name 2) (.bi .sorted [(.var 0)]),
    .ife (.not (.chain .le .lt (.int 0) (.var 1) (.call 0 [(.bi .len [(.var 2)])])))
      [
        .ret .non]
      [],
    .asg (.name 3) (.tup []),
    .for (.name 4) (.rng [(.bi .len [(.var 2)]), (.int 0), (.neg (.int 1))])
      [
        .asg (.name 5) (.call 0 [(.bin .sub (.var 4) (.int 1))]),
        .asg (.name 3) (.bin .add (.var 3) (.tup [(.mt .popAt (.var 2) [(.bin .fdiv (.var 1) (.var 5))])])),
        .asg (.name 1) (.bin .mod (.var 1) (.var 5))],
    .ret (.var 3)]⟩
def d_order_with : DI := ⟨"order_with", ["things", "k"], ["things", "k", "left", "found", "many", "behind"], top 4⟩
def f_first_of_order : Fn := ⟨3, 8,
  [
    .asg (.name 3) (.bi .sorted [(.var 0)]),
    .asg (.name 4) (.tup []),
    .for (.name 5) (.rng [(.var 2)])
      [
        .asg (.name 6) (.int 1),
        .for (.name 7) (.rng [(.bin .sub (.bin .sub (.var 2) (.var 5)) (.int 1))])
          [
            .asg (.name 6) (.bin .mul (.var 6) (.bin .sub (.bin .sub (.bi .len [(.var 3)]) (.int 1)) (.var 7)))],
        .asg (.name 4) (.bin .add (.var 4) (.tup [(.mt .popAt (.var 3) [(.bin .fdiv (.var 1) (.var 6))])])),
        .asg (.name 1) (.bin .mod (.var 1) (.var 6))],
    .ret (.var 4)]⟩
def d_first_of_order : DI := ⟨"first_of_order", ["things", "k", "many"], ["things", "k", "many", "left", "found", "step", "behind", "j"], top 5⟩
def f_count_messages : Fn := ⟨2, 4,
  [
    .asg (.name 2) (.int 1),
    .for (.name 3) (.rng [(.var 1)])
      [
        .asg (.name 2) (.bin .mul (.var 2) (.bin .sub (.bi .len [(.var 0)]) (.var 3)))],
    .ret (.var 2)]⟩
def d_count_messages : DI := ⟨"count_messages", ["things", "many"], ["things", "many", "found", "k"], top 6⟩
def f_message_of : Fn := ⟨2, 5,
  [
    .asg (.name 2) (.bi .sorted [(.var 0)]),
    .asg (.name 3) (.int 0),
    .for (.name 4) (.val (.var 1))
      [
        .asg (.name 3) (.bin .add (.bin .mul (.var 3) (.bi .len [(.var 2)])) (.mt .index (.var 2) [(.var 4)])),
        .expr (.mt .remove (.var 2) [(.var 4)])],
    .ret (.var 3)]⟩
def d_message_of : DI := ⟨"message_of", ["things", "played"], ["things", "played", "left", "found", "one"], top 7⟩
def f__law_draws : Fn := ⟨2, 8,
  [
    .asg (.name 2) (.lst []),
    .asg (.name 3) (.int 7),
    .for (.name 4) (.rng [(.bi .len [(.var 0)])])
      [
        .asg (.name 5) (.bi .abs [(.bi .int [(.ix (.var 0) (.var 4))])]),
        .asg (.name 3) (.bin .mod (.bi .int [(.bin .add (.bin .add (.bin .mul (.var 3) (.int 48271)) (.bin .mod (.var 5) (.int 1000003))) (.var 4))]) (.int 65537)),
        .asg (.name 6) (.int 0),
        .ife (.cmp .ge (.var 5) (.bin .pow (.int 10) (.int 18)))
          [
            .asg (.name 6) (.var 5)]
          [
            .expr (.mt .append (.var 2) [(.bin .mod (.bi .int [(.var 5)]) (.int 997))]),
            .expr (.mt .append (.var 2) [(.bin .mod (.bin .mod (.bi .int [(.bin .add (.bin .mul (.var 3) (.int 69621)) (.int 5))]) (.int 65521)) (.int 997))])],
        .for (.name 7) (.rng [(.int 60)])
          [
            .ife (.cmp .gt (.var 6) (.int 0))
              [
                .expr (.mt .append (.var 2) [(.bin .mod (.bi .int [(.var 6)]) (.int 997))]),
                .asg (.name 6) (.bin .fdiv (.var 6) (.int 997))]
              []]],
    .for (.name 4) (.rng [(.var 1)])
      [
        .asg (.name 3) (.bin .mod (.bi .int [(.bin .add (.bin .add (.bin .mul (.var 3) (.int 16807)) (.var 4)) (.int 1))]) (.int 65537)),
        .expr (.mt .append (.var 2) [(.bin .mod (.bi .int [(.var 3)]) (.int 997))])],
    .ret (.sl (.var 2) none (some (.var 1)))]⟩
def d__law_draws : DI := ⟨"_law_draws", ["script", "many"], ["script", "many", "draws", "mixed", "k", "cell", "rest", "turn"], top 9⟩
def f__law_next : Fn := ⟨2, 2,
  [
    .augS (.var 0) (.str "at") .add (.int 1),
    .ife (.cmp .gt (.ix (.var 0) (.str "at")) (.bi .len [(.ix (.var 0) (.str "draws"))]))
      [
        .ret (.int 0)]
      [],
    .ret (.bin .mod (.bi .int [(.ix (.ix (.var 0) (.str "draws")) (.bin .sub (.ix (.var 0) (.str "at")) (.int 1)))]) (.var 1))]⟩
def d__law_next : DI := ⟨"_law_next", ["w", "many"], ["w", "many"], top 10⟩
def f__law_pick : Fn := ⟨2, 2,
  [
    .ret (.ix (.var 1) (.call 7 [(.var 0), (.bi .len [(.var 1)])]))]⟩
def d__law_pick : DI := ⟨"_law_pick", ["w", "rows"], ["w", "rows"], top 11⟩
def f__law_alike : Fn := ⟨2, 3,
  [
    .ife (.val (.bi (.isi .tuple) [(.var 1)]))
      [
        .ife (.or [(.not (.val (.bi (.isi .tuple) [(.var 0)]))), (.cmp .ne (.bi .len [(.var 0)]) (.bi .len [(.var 1)]))])
          [
            .ret (.bl false)]
          [],
        .ret (.cmp .eq (.comp (.var 2) [2] false (.rng [(.bi .len [(.var 1)])]) (some (.not (.val (.call 9 [(.ix (.var 0) (.var 2)), (.ix (.var 1) (.var 2))])))) [2]) (.lst []))]
      [],
    .ife (.isN false (.var 1))
      [
        .ret (.isN false (.var 0))]
      [],
    .ife (.val (.bi (.isi .bool) [(.var 1)]))
      [
        .ret (.and [(.bi (.isi .bool) [(.var 0)]), (.cmp .eq (.var 0) (.var 1))])]
      [],
    .ife (.val (.bi (.isi .int) [(.var 1)]))
      [
        .ret (.and [(.bi (.isi .int) [(.var 0)]), (.not (.bi (.isi .bool) [(.var 0)])), (.cmp .eq (.var 0) (.var 1))])]
      [],
    .ret (.and [(.bi (.isi .str) [(.var 0)]), (.cmp .eq (.var 0) (.var 1))])]⟩
def d__law_alike : DI := ⟨"_law_alike", ["told", "due"], ["told", "due", "k"], top 12⟩
def f__law_rows : Fn := ⟨2, 6,
  [
    .ife (.cmp .eq (.var 1) (.int 0))
      [
        .ret (.lst [(.tup [])])]
      [],
    .asg (.name 2) (.lst []),
    .for (.name 3) (.val (.var 0))
      [
        .asg (.name 2) (.bin .add (.var 2) (.comp (.bin .add (.tup [(.var 3)]) (.var 4)) [4] false (.val (.call 10 [(.comp (.var 5) [5] false (.val (.var 0)) (some (.cmp .ne (.var 5) (.var 3))) [5]), (.bin .sub (.var 1) (.int 1))])) none [4]))],
    .ret (.var 2)]⟩
def d__law_rows : DI := ⟨"_law_rows", ["things", "many"], ["things", "many", "found", "one", "rest", "other"], top 13⟩
def f_law : Fn := ⟨1, 9,
  [
    .asg (.name 1) (.dic ["draws", "at"] [(.call 6 [(.var 0), (.int 400)]), (.int 0)]),
    .for (.name 2) (.rng [(.int 5)])
      [
        .asg (.name 3) (.lst []),
        .for (.name 4) (.rng [(.bin .add (.int 1) (.call 7 [(.var 1), (.int 5)]))])
          [
            .asg (.name 5) (.tup [(.call 7 [(.var 1), (.int 4)]), (.call 7 [(.var 1), (.int 13)])]),
            .asg (.name 3) (.bin .add (.var 3) (.ife (.cmp .notin (.var 5) (.var 3)) (.lst [(.var 5)]) (.lst [])))],
        .asg (.name 6) (.call 10 [(.bi .sorted [(.var 3)]), (.bi .len [(.var 3)])]),
        .for (.name 4) (.val (.lst [(.int 0), (.bin .sub (.bi .len [(.var 6)]) (.int 1)), (.call 7 [(.var 1), (.bi .len [(.var 6)])]), (.call 7 [(.var 1), (.bi .len [(.var 6)])])]))
          [
            .ife (.or [(.not (.val (.call 9 [(.call 2 [(.bi .tuple [(.var 3)]), (.var 4)]), (.ix (.var 6) (.var 4))]))), (.not (.val (.call 9 [(.call 1 [(.ix (.var 6) (.var 4))]), (.var 4)])))])
              [
                .ret (.bl false)]
              []],
        .ife (.or [(.not (.val (.call 9 [(.call 2 [(.bi .tuple [(.var 3)]), (.bi .len [(.var 6)])]), .non]))), (.not (.val (.call 9 [(.call 2 [(.bi .tuple [(.var 3)]), (.neg (.int 1))]), .non])))])
          [
            .ret (.bl false)]
          [],
        .asg (.name 7) (.call 7 [(.var 1), (.bin .add (.bi .len [(.var 3)]) (.int 1))]),
        .asg (.name 8) (.call 10 [(.bi .sorted [(.var 3)]), (.var 7)]),
        .ife (.not (.val (.call 9 [(.call 4 [(.bi .tuple [(.var 3)]), (.var 7)]), (.bi .len [(.var 8)])])))
          [
            .ret (.bl false)]
          [],
        .asg (.name 4) (.call 7 [(.var 1), (.bi .len [(.var 8)])]),
        .ife (.or [(.not (.val (.call 9 [(.call 3 [(.bi .tuple [(.var 3)]), (.var 4), (.var 7)]), (.ix (.var 8) (.var 4))]))), (.not (.val (.call 9 [(.call 5 [(.bi .tuple [(.var 3)]), (.ix (.var 8) (.var 4))]), (.var 4)])))])
          [
            .ret (.bl false)]
          []],
    .ret (.bl true)]⟩
def d_law : DI := ⟨"law", ["script"], ["script", "w", "turn", "things", "k", "card", "every", "many", "rows"], top 14⟩
def prog : Prog := [f_orders, f_place_of_order, f_order_with, f_first_of_order, f_count_messages, f_message_of, f__law_draws, f__law_next, f__law_pick, f__law_alike, f__law_rows, f_law]
def dis : List DI := [d_orders, d_place_of_order, d_order_with, d_first_of_order, d_count_messages, d_message_of, d__law_draws, d__law_next, d__law_pick, d__law_alike, d__law_rows, d_law]
def G : Gs := ⟨["orders", "place_of_order", "order_with", "first_of_order", "count_messages", "message_of", "_law_draws", "_law_next", "_law_pick", "_law_alike", "_law_rows", "law"], ["abs", "bool", "int", "isinstance", "len", "range", "sorted", "str", "tuple"]⟩
theorem en_orders {k : Nat} {args : List D} {s : S} {Q : Post} (hl : args.length = 1) (h : wpSs (wpF prog k) f_orders.body (retD Q) (startV f_orders args) s) : wpF prog (k + 1) 0 args s Q := @wpF_call prog k 0 f_orders args s Q rfl hl h
theorem en_place_of_order {k : Nat} {args : List D} {s : S} {Q : Post} (hl : args.length = 1) (h : wpSs (wpF prog k) f_place_of_order.body (retD Q) (startV f_place_of_order args) s) : wpF prog (k + 1) 1 args s Q := @wpF_call prog k 1 f_place_of_order args s Q rfl hl h
theorem en_order_with {k : Nat} {args : List D} {s : S} {Q : Post} (hl : args.length = 2) (h : wpSs (wpF prog k) f_order_with.body (retD Q) (startV f_order_with args) s) : wpF prog (k + 1) 2 args s Q := @wpF_call prog k 2 f_order_with args s Q rfl hl h
theorem en_first_of_order {k : Nat} {args : List D} {s : S} {Q : Post} (hl : args.length = 3) (h : wpSs (wpF prog k) f_first_of_order.body (retD Q) (startV f_first_of_order args) s) : wpF prog (k + 1) 3 args s Q := @wpF_call prog k 3 f_first_of_order args s Q rfl hl h
theorem en_count_messages {k : Nat} {args : List D} {s : S} {Q : Post} (hl : args.length = 2) (h : wpSs (wpF prog k) f_count_messages.body (retD Q) (startV f_count_messages args) s) : wpF prog (k + 1) 4 args s Q := @wpF_call prog k 4 f_count_messages args s Q rfl hl h
theorem en_message_of {k : Nat} {args : List D} {s : S} {Q : Post} (hl : args.length = 2) (h : wpSs (wpF prog k) f_message_of.body (retD Q) (startV f_message_of args) s) : wpF prog (k + 1) 5 args s Q := @wpF_call prog k 5 f_message_of args s Q rfl hl h
theorem en__law_draws {k : Nat} {args : List D} {s : S} {Q : Post} (hl : args.length = 2) (h : wpSs (wpF prog k) f__law_draws.body (retD Q) (startV f__law_draws args) s) : wpF prog (k + 1) 6 args s Q := @wpF_call prog k 6 f__law_draws args s Q rfl hl h
theorem en__law_next {k : Nat} {args : List D} {s : S} {Q : Post} (hl : args.length = 2) (h : wpSs (wpF prog k) f__law_next.body (retD Q) (startV f__law_next args) s) : wpF prog (k + 1) 7 args s Q := @wpF_call prog k 7 f__law_next args s Q rfl hl h
theorem en__law_pick {k : Nat} {args : List D} {s : S} {Q : Post} (hl : args.length = 2) (h : wpSs (wpF prog k) f__law_pick.body (retD Q) (startV f__law_pick args) s) : wpF prog (k + 1) 8 args s Q := @wpF_call prog k 8 f__law_pick args s Q rfl hl h
theorem en__law_alike {k : Nat} {args : List D} {s : S} {Q : Post} (hl : args.length = 2) (h : wpSs (wpF prog k) f__law_alike.body (retD Q) (startV f__law_alike args) s) : wpF prog (k + 1) 9 args s Q := @wpF_call prog k 9 f__law_alike args s Q rfl hl h
theorem en__law_rows {k : Nat} {args : List D} {s : S} {Q : Post} (hl : args.length = 2) (h : wpSs (wpF prog k) f__law_rows.body (retD Q) (startV f__law_rows args) s) : wpF prog (k + 1) 10 args s Q := @wpF_call prog k 10 f__law_rows args s Q rfl hl h
theorem en_law {k : Nat} {args : List D} {s : S} {Q : Post} (hl : args.length = 1) (h : wpSs (wpF prog k) f_law.body (retD Q) (startV f_law args) s) : wpF prog (k + 1) 11 args s Q := @wpF_call prog k 11 f_law args s Q rfl hl h
theorem ok_all : (List.zipWith (fun d f => d.ok G f) dis prog).all id = true := by decide +kernel
end K57
end

section
set_option Elab.async false
set_option linter.all false
set_option maxRecDepth 100000
namespace K57
open PL
/-! ## rows of different things, in order -/
def fact : Nat → Nat
  | 0 => 1
  | n + 1 => fact n * (n + 1)
/-- how many rows of m of n things -/
def cnt : Nat → Nat → Nat
  | _, 0 => 1
  | n, m + 1 => n * cnt (n - 1) m
def rows (xs : List D) : Nat → List (List D)
  | 0 => [[]]
  | m + 1 => xs.flatMap fun one => (rows (xs.filter fun o => decide (o ≠ one)) m).map (one :: ·)
theorem cnt_fact : ∀ n m : Nat, cnt n m ≤ fact n
  | 0, 0 => Nat.le_refl _
  | n + 1, 0 => by
    have := cnt_fact n 0
    show 1 ≤ fact n * (n + 1)
    exact Nat.mul_pos this (Nat.succ_pos n)
  | 0, m + 1 => by simp [cnt, fact]
  | n + 1, m + 1 => by
    show (n + 1) * cnt n m ≤ fact n * (n + 1)
    rw [Nat.mul_comm]
    exact Nat.mul_le_mul_right _ (cnt_fact n m)
theorem cnt_self : ∀ n : Nat, cnt n n = fact n
  | 0 => rfl
  | n + 1 => by
    show (n + 1) * cnt n n = fact n * (n + 1)
    rw [cnt_self n, Nat.mul_comm]
theorem fact_small : ∀ n : Nat, n ≤ 6 → fact n ≤ 720
  | 0, _ => by decide
  | 1, _ => by decide
  | 2, _ => by decide
  | 3, _ => by decide
  | 4, _ => by decide
  | 5, _ => by decide
  | 6, _ => by decide
  | n + 7, h => by omega
theorem cnt_pos : ∀ n m : Nat, m ≤ n → 0 < cnt n m
  | _, 0, _ => Nat.one_pos
  | 0, m + 1, h => by omega
  | n + 1, m + 1, h => Nat.mul_pos (Nat.succ_pos n) (cnt_pos n m (by omega))
theorem filter_ne {xs : List D} {j : Nat} {one : D} (nd : xs.Nodup) (h : xs[j]? = some one) : xs.filter (fun o => decide (o ≠ one)) = xs.eraseIdx j := by
  induction xs generalizing j with
  | nil => simp at h
  | cons x xs ih =>
    rw [List.nodup_cons] at nd
    cases j with
    | zero =>
      simp at h; subst h
      rw [List.filter_cons_of_neg (by simp), List.eraseIdx_cons_zero, List.filter_eq_self]
      intro a ha
      simp only [ne_eq, decide_not, Bool.not_eq_true', decide_eq_false_iff_not]
      rintro rfl
      exact nd.1 ha
    | succ j =>
      have h' : xs[j]? = some one := by simpa using h
      have hm : one ∈ xs := List.mem_of_getElem? h'
      rw [List.filter_cons_of_pos (by simp; rintro rfl; exact nd.1 hm), List.eraseIdx_cons_succ, ih nd.2 h']
theorem len_ne {xs : List D} {one : D} (nd : xs.Nodup) (h : one ∈ xs) : (xs.filter fun o => decide (o ≠ one)).length = xs.length - 1 := by
  obtain ⟨j, hj⟩ := List.getElem?_of_mem h
  rw [filter_ne nd hj, List.length_eraseIdx, if_pos (List.getElem?_eq_some_iff.mp hj).1]
theorem flat_len {α β : Type} {f : α → List β} {c : Nat} : ∀ {xs : List α}, (∀ x ∈ xs, (f x).length = c) → (xs.flatMap f).length = xs.length * c
  | [], _ => by simp
  | x :: xs, h => by
    rw [List.flatMap_cons, List.length_append, h x (by simp), flat_len fun y hy => h y (by simp [hy]), List.length_cons, Nat.succ_mul, Nat.add_comm]
theorem flat_get {α β : Type} {f : α → List β} {c : Nat} (hc : 0 < c) : ∀ {xs : List α} {k : Nat}, (∀ x ∈ xs, (f x).length = c) → (xs.flatMap f)[k]? = (xs[k / c]?).bind fun x => (f x)[k % c]?
  | [], k, _ => by simp
  | x :: xs, k, h => by
    rw [List.flatMap_cons]
    have hx := h x (by simp)
    by_cases hk : k < c
    · rw [List.getElem?_append_left (by omega), Nat.div_eq_of_lt hk, Nat.mod_eq_of_lt hk]
      rfl
    · rw [List.getElem?_append_right (by omega), hx, flat_get hc fun y hy => h y (by simp [hy])]
      have e : k = (k - c) + c := by omega
      have e1 : k / c = (k - c) / c + 1 := by rw [e, Nat.add_div_right _ hc]; simp
      have e2 : k % c = (k - c) % c := by rw [e, Nat.add_mod_right]; simp
      rw [e1, e2]
      simp
theorem rows_len : ∀ (m : Nat) {xs : List D}, xs.Nodup → (rows xs m).length = cnt xs.length m
  | 0, xs, _ => rfl
  | m + 1, xs, nd => by
    show (xs.flatMap _).length = xs.length * cnt (xs.length - 1) m
    refine flat_len fun x hx => ?_
    rw [List.length_map, rows_len m (nd.filter _), len_ne nd hx]
theorem rows_step {xs row : List D} {m k : Nat} (nd : xs.Nodup) (hc : 0 < cnt (xs.length - 1) m) (h : (rows xs (m + 1))[k]? = some row) :
    ∃ one rest, xs[k / cnt (xs.length - 1) m]? = some one ∧ row = one :: rest ∧ (rows (xs.eraseIdx (k / cnt (xs.length - 1) m)) m)[k % cnt (xs.length - 1) m]? = some rest := by
  have q := flat_get (f := fun one => (rows (xs.filter fun o => decide (o ≠ one)) m).map (one :: ·)) hc (xs := xs) (k := k) fun x hx => by
    rw [List.length_map, rows_len m (nd.filter _), len_ne nd hx]
  rw [show (rows xs (m + 1))[k]? = _ from q] at h
  cases e : xs[k / cnt (xs.length - 1) m]? with
  | none => rw [e] at h; cases h
  | some one =>
    rw [e] at h
    simp only [Option.bind_some, List.getElem?_map] at h
    rw [filter_ne nd e] at h
    obtain ⟨rest, h1, h2⟩ := Option.map_eq_some_iff.mp h
    exact ⟨one, rest, rfl, h2.symm, h1⟩
theorem rows_mem : ∀ (m : Nat) {xs row : List D}, row ∈ rows xs m → row.length = m ∧ ∀ x ∈ row, x ∈ xs
  | 0, xs, row, h => by
    simp only [rows, List.mem_singleton] at h
    subst h
    exact ⟨rfl, by simp⟩
  | m + 1, xs, row, h => by
    simp only [rows, List.mem_flatMap, List.mem_map] at h
    obtain ⟨one, h1, r, h2, rfl⟩ := h
    obtain ⟨h3, h4⟩ := rows_mem m h2
    refine ⟨by simp [h3], fun x hx => ?_⟩
    rcases List.mem_cons.mp hx with rfl | hx
    · exact h1
    · exact (List.mem_filter.mp (h4 x hx)).1
theorem rows_nodup : ∀ (m : Nat) {xs row : List D}, row ∈ rows xs m → row.Nodup
  | 0, xs, row, h => by
    simp only [rows, List.mem_singleton] at h
    subst h
    exact List.nodup_nil
  | m + 1, xs, row, h => by
    simp only [rows, List.mem_flatMap, List.mem_map] at h
    obtain ⟨one, h1, r, h2, rfl⟩ := h
    rw [List.nodup_cons]
    refine ⟨fun hm => ?_, rows_nodup m h2⟩
    have := (rows_mem m h2).2 one hm
    simp at this
theorem erase_perm {α : Type} {one : α} : ∀ {xs : List α} {j : Nat}, xs[j]? = some one → (one :: xs.eraseIdx j).Perm xs
  | [], j, h => by simp at h
  | x :: xs, 0, h => by
    simp at h; subst h
    simp
  | x :: xs, j + 1, h => by
    have := erase_perm (xs := xs) (j := j) (by simpa using h)
    rw [List.eraseIdx_cons_succ]
    exact (List.Perm.swap x one _).trans (this.cons x)
/-- a whole row is the things in another order -/
theorem rows_perm : ∀ (m : Nat) {xs row : List D}, xs.Nodup → m = xs.length → row ∈ rows xs m → row.Perm xs
  | 0, xs, row, nd, hm, h => by
    simp only [rows, List.mem_singleton] at h
    subst h
    rw [List.length_eq_zero_iff.mp hm.symm]
  | m + 1, xs, row, nd, hm, h => by
    simp only [rows, List.mem_flatMap, List.mem_map] at h
    obtain ⟨one, h1, r, h2, rfl⟩ := h
    have p := rows_perm m (nd.filter _) (by rw [len_ne nd h1]; omega) h2
    obtain ⟨j, hj⟩ := List.getElem?_of_mem h1
    rw [filter_ne nd hj] at p
    refine (p.cons one).trans ?_
    exact erase_perm hj
end K57
end

section
set_option Elab.async false
set_option linter.all false
set_option maxRecDepth 100000
set_option maxHeartbeats 0
namespace K57
open PySem PySem.W PySem.SeqAt PL
local macro_rules | `(tactic| rotate_right) => `(tactic| simp -implicitDefEqProofs only [st_asg, st_ife, st_ret, st_retN, st_expr, st_nil, st_cons, st_augS, tg_name, wpE, wpT, wpEs, wpO, wpC, wpAnd, wpOr, wpAndT, wpOrT, wpBin, wpBi, wpLen, wpAbs, wpInt, wpAug, wpMt, recvB,
  List.getD_cons_zero, List.getD_cons_succ, List.set_cons_zero, List.set_cons_succ, startV, List.map_cons, List.map_nil, List.length_cons, List.length_nil, Nat.reduceAdd, Nat.reduceSub, List.replicate, List.cons_append, List.nil_append, if_true, if_false, Bool.false_eq_true, reduceIte])
/-- what the walks ask of the things -/
structure Th (xs : List D) : Prop where
  ok : ∀ x ∈ xs, okD 1 x = true
  al : alikeL xs
  so : Sortable (xs.map datP)
  le : xs.length ≤ 6
theorem sp_orders {n k : Nat} {s : S} {Q : Post} (hn : n < 1000) (q : Q (.int (fact n)) s) : wpF prog (k + 1) 0 [.int n] s Q := by
  refine en_orders rfl ?_
  unfold f_orders
  rotate_right
  refine for_of (wpF_mono _ _) (I_rng2 (wpF_mono _ _) ?_)
  rotate_right
  refine ⟨2, n + 1, rfl, rfl, by omega, fun i ρ s' => s' = s ∧ ∃ v, ρ = [some (.int n), some (.int (fact (i + 1))), v], ⟨rfl, none, rfl⟩, ?_, ?_⟩
  · rintro i x ρ s' hx ⟨rfl, v, rfl⟩
    obtain ⟨hi, rfl⟩ := rangeL_at hx
    refine ⟨trivial, ?_⟩
    rotate_right
    refine ⟨.inr (by omega), s', S.le_refl _, rfl, some (.int (2 + i * 1)), ?_⟩
    rw [show (fact (i + 1 + 1) : Int) = fact (i + 1) * (2 + i * 1) from by show ((fact (i + 1) * (i + 2) : Nat) : Int) = _; push_cast; rw [show (2 + (i : Int) * 1) = 1 + (i + 1) from by omega]; congr 1; omega]
  · rintro ρ s' ⟨rfl, v, rfl⟩
    refine ⟨trivial, ?_⟩
    rw [rangeL_len]
    rotate_right
    refine ⟨s', S.le_refl _, ?_⟩
    cases n with
    | zero => exact q
    | succ n => rw [show (((n + 1 : Nat) : Int) + 1 - 2).toNat + 1 = n + 1 from by omega]; exact q
theorem sp_place {L row : List D} {n k : Nat} {s : S} {Q : Post} (th : Th row) (nd : L.Nodup) (ho : ∀ x ∈ L, okD 1 x = true) (hn : row.length ≤ L.length) (hle : L.length ≤ 6) (hL : ∀ t, sortS t false row = L) (hr : (rows L row.length)[n]? = some row) (q : Q (.int n) s) : wpF prog (k + 1) 1 [.tup row] s Q := by
  refine en_place_of_order rfl ?_
  unfold f_place_of_order
  rotate_right
  refine w_sorted (n := 1) rfl th.ok (by omega) th.al th.so fun p hp => ?_
  rw [hL]
  refine for_of (wpF_mono _ _) ?_
  simp -implicitDefEqProofs only [wpI]
  rotate_right
  refine ⟨fun i ρ s' => ∃ (xs : List D) (f r : Nat) (v : Option D), s' = s.up p (.lst xs) ∧ ρ = [some (.tup row), some (.loc p), some (.int f), v] ∧ xs.Nodup ∧ xs.length + i = L.length ∧ (∀ x ∈ xs, okD 1 x = true) ∧
    (rows xs (row.length - i))[r]? = some (row.drop i) ∧ n = f * cnt xs.length (row.length - i) + r, ⟨L, 0, n, none, rfl, rfl, nd, rfl, ho, by simpa using hr, by simp⟩, ?_, ?_⟩
  · rintro i x ρ s' hx ⟨xs, f, r, v, rfl, rfl, nd', hl, ho', hr', hn'⟩
    have hi : i < row.length := (List.getElem?_eq_some_iff.mp hx).1
    refine ⟨trivial, ?_⟩
    have em : row.length - i = (row.length - (i + 1)) + 1 := by omega
    rw [em] at hr' hn'
    have hc : 0 < cnt (xs.length - 1) (row.length - (i + 1)) := cnt_pos _ _ (by omega)
    obtain ⟨one, rest, h1, h2, h3⟩ := rows_step nd' hc hr'
    have ex : row.drop i = x :: row.drop (i + 1) := by
      obtain ⟨_, e⟩ := List.getElem?_eq_some_iff.mp hx
      rw [List.drop_eq_getElem_cons hi, e]
    rw [ex] at h2
    injection h2 with h2a h2b
    subst h2a h2b
    have hok := ho' x (List.mem_of_getElem? h1)
    have hj : r / cnt (xs.length - 1) (row.length - (i + 1)) < xs.length := (List.getElem?_eq_some_iff.mp h1).1
    rotate_right
    rw [S.up_same]
    rotate_right
    refine ⟨.inr (by omega), by unfold seqAt; rw [S.up_same]; rfl, ?_⟩
    refine w_index (n := 1) seqAt_up ho' hok (by omega) (find_nodup nd' h1) ?_
    rotate_right
    refine ⟨by unfold seqAt; rw [S.up_same]; rfl, ?_⟩
    refine w_remove (n := 1) S.up_same ho' hok (by omega) (find_nodup nd' h1) ?_
    refine ⟨_, S.le_refl _, _, f * xs.length + r / cnt (xs.length - 1) (row.length - (i + 1)), _, some x, S.up_up, ?_, nd'.sublist (List.eraseIdx_sublist _ _), ?_, fun y hy => ho' y ((List.eraseIdx_sublist _ _).mem hy), h3, ?_⟩
    · push_cast
      rfl
    · rw [List.length_eraseIdx, if_pos hj]
      omega
    · rw [List.length_eraseIdx, if_pos hj]
      have := Nat.div_add_mod r (cnt (xs.length - 1) (row.length - (i + 1)))
      rw [hn', show cnt xs.length (row.length - (i + 1) + 1) = xs.length * cnt (xs.length - 1) (row.length - (i + 1)) from rfl, Nat.add_mul, Nat.mul_assoc]
      rw [Nat.mul_comm (r / _)]
      omega
  · rintro ρ s' ⟨xs, f, r, v, rfl, rfl, nd', hl, ho', hr', hn'⟩
    refine ⟨trivial, ?_⟩
    rotate_right
    refine ⟨s, S.le_up hp, ?_⟩
    rw [Nat.sub_self] at hr' hn'
    have hr0 : r = 0 := by
      have := (List.getElem?_eq_some_iff.mp hr').1
      simp only [rows, List.length_cons, List.length_nil] at this
      omega
    have : n = f := by
      rw [hn', hr0]
      show f * 1 + 0 = f
      omega
    rw [← this]
    exact q
theorem sp_message {L th0 row : List D} {n k : Nat} {s : S} {Q : Post} (th : Th th0) (nd : L.Nodup) (ho : ∀ x ∈ L, okD 1 x = true) (hn : row.length ≤ L.length) (hle : L.length ≤ 6) (hL : ∀ t, sortS t false th0 = L) (hr : (rows L row.length)[n]? = some row) (q : Q (.int n) s) : wpF prog (k + 1) 5 [.tup th0, .tup row] s Q := by
  refine en_message_of rfl ?_
  unfold f_message_of
  rotate_right
  refine w_sorted (n := 1) rfl th.ok (by omega) th.al th.so fun p hp => ?_
  rw [hL]
  refine for_of (wpF_mono _ _) ?_
  simp -implicitDefEqProofs only [wpI]
  rotate_right
  refine ⟨fun i ρ s' => ∃ (xs : List D) (f r : Nat) (v : Option D), s' = s.up p (.lst xs) ∧ ρ = [some (.tup th0), some (.tup row), some (.loc p), some (.int f), v] ∧ xs.Nodup ∧ xs.length + i = L.length ∧ (∀ x ∈ xs, okD 1 x = true) ∧
    (rows xs (row.length - i))[r]? = some (row.drop i) ∧ n = f * cnt xs.length (row.length - i) + r, ⟨L, 0, n, none, rfl, rfl, nd, rfl, ho, by simpa using hr, by simp⟩, ?_, ?_⟩
  · rintro i x ρ s' hx ⟨xs, f, r, v, rfl, rfl, nd', hl, ho', hr', hn'⟩
    have hi : i < row.length := (List.getElem?_eq_some_iff.mp hx).1
    refine ⟨trivial, ?_⟩
    have em : row.length - i = (row.length - (i + 1)) + 1 := by omega
    rw [em] at hr' hn'
    have hc : 0 < cnt (xs.length - 1) (row.length - (i + 1)) := cnt_pos _ _ (by omega)
    obtain ⟨one, rest, h1, h2, h3⟩ := rows_step nd' hc hr'
    have ex : row.drop i = x :: row.drop (i + 1) := by
      obtain ⟨_, e⟩ := List.getElem?_eq_some_iff.mp hx
      rw [List.drop_eq_getElem_cons hi, e]
    rw [ex] at h2
    injection h2 with h2a h2b
    subst h2a h2b
    have hok := ho' x (List.mem_of_getElem? h1)
    have hj : r / cnt (xs.length - 1) (row.length - (i + 1)) < xs.length := (List.getElem?_eq_some_iff.mp h1).1
    rotate_right
    rw [S.up_same]
    rotate_right
    refine ⟨.inr (by omega), by unfold seqAt; rw [S.up_same]; rfl, ?_⟩
    refine w_index (n := 1) seqAt_up ho' hok (by omega) (find_nodup nd' h1) ?_
    rotate_right
    refine ⟨by unfold seqAt; rw [S.up_same]; rfl, ?_⟩
    refine w_remove (n := 1) S.up_same ho' hok (by omega) (find_nodup nd' h1) ?_
    refine ⟨_, S.le_refl _, _, f * xs.length + r / cnt (xs.length - 1) (row.length - (i + 1)), _, some x, S.up_up, ?_, nd'.sublist (List.eraseIdx_sublist _ _), ?_, fun y hy => ho' y ((List.eraseIdx_sublist _ _).mem hy), h3, ?_⟩
    · push_cast
      rfl
    · rw [List.length_eraseIdx, if_pos hj]
      omega
    · rw [List.length_eraseIdx, if_pos hj]
      have := Nat.div_add_mod r (cnt (xs.length - 1) (row.length - (i + 1)))
      rw [hn', show cnt xs.length (row.length - (i + 1) + 1) = xs.length * cnt (xs.length - 1) (row.length - (i + 1)) from rfl, Nat.add_mul, Nat.mul_assoc]
      rw [Nat.mul_comm (r / _)]
      omega
  · rintro ρ s' ⟨xs, f, r, v, rfl, rfl, nd', hl, ho', hr', hn'⟩
    refine ⟨trivial, ?_⟩
    rotate_right
    refine ⟨s, S.le_up hp, ?_⟩
    rw [Nat.sub_self] at hr' hn'
    have hr0 : r = 0 := by
      have := (List.getElem?_eq_some_iff.mp hr').1
      simp only [rows, List.length_cons, List.length_nil] at this
      omega
    have : n = f := by
      rw [hn', hr0]
      show f * 1 + 0 = f
      omega
    rw [← this]
    exact q
end K57
end

section
set_option Elab.async false
set_option linter.all false
set_option maxRecDepth 100000
set_option maxHeartbeats 0
namespace K57
open PySem PySem.W PySem.SeqAt PL
local macro_rules | `(tactic| rotate_right) => `(tactic| simp -implicitDefEqProofs only [st_asg, st_ife, st_ret, st_retN, st_expr, st_nil, st_cons, st_augS, tg_name, wpE, wpT, wpEs, wpO, wpC, wpAnd, wpOr, wpAndT, wpOrT, wpBin, wpBi, wpLen, wpAbs, wpInt, wpAug, wpMt, recvB,
  List.getD_cons_zero, List.getD_cons_succ, List.set_cons_zero, List.set_cons_succ, startV, List.map_cons, List.map_nil, List.length_cons, List.length_nil, Nat.reduceAdd, Nat.reduceSub, List.replicate, List.cons_append, List.nil_append, if_true, if_false, Bool.false_eq_true, reduceIte])
theorem cnt_row {L : List D} {m n : Nat} {row : List D} (nd : L.Nodup) (h : (rows L m)[n]? = some row) : n < cnt L.length m := by
  have := (List.getElem?_eq_some_iff.mp h).1
  rwa [rows_len m nd] at this
theorem sp_with {L th0 row : List D} {n k : Nat} {s : S} {Q : Post} (th : Th th0) (nd : L.Nodup) (hle : L.length ≤ 6) (hL : ∀ t, sortS t false th0 = L) (hr : (rows L L.length)[n]? = some row) (q : Q (.tup row) s) : wpF prog (k + 2) 2 [.tup th0, .int n] s Q := by
  refine en_order_with rfl ?_
  unfold f_order_with
  rotate_right
  refine w_sorted (n := 1) rfl th.ok (by omega) th.al th.so fun p hp => ?_
  rw [hL]
  rotate_right
  simp -implicitDefEqProofs only [wpCm]
  have h0 : (decide ((0 : Int) ≤ (n : Int))) = true := by simp
  rw [h0]
  rotate_right
  rw [S.up_same]
  rotate_right
  refine sp_orders (by omega) ?_
  have hn := cnt_row nd hr
  rw [cnt_self] at hn
  have h1 : (decide ((n : Int) < (fact L.length : Int))) = true := by simp; exact hn
  simp -implicitDefEqProofs only [wpCm, h1]
  rotate_right
  simp -implicitDefEqProofs only [Bool.not_true]
  rotate_right
  refine for_of (wpF_mono _ _) (I_rngD (wpF_mono _ _) ?_)
  rotate_right
  rw [S.up_same]
  rotate_right
  refine ⟨L.length, 0, rfl, rfl, by omega, fun i ρ s' => ∃ (xs done : List D) (r : Nat) (v w : Option D), s' = s.up p (.lst xs) ∧ ρ = [some (.tup th0), some (.int r), some (.loc p), some (.tup done), v, w] ∧ xs.Nodup ∧ xs.length + i = L.length ∧
    ∃ rest, (rows xs (L.length - i))[r]? = some rest ∧ row = done ++ rest ∧ done.length = i, ⟨L, [], n, none, none, rfl, rfl, nd, rfl, row, by simpa using hr, rfl, rfl⟩, ?_, ?_⟩
  · rintro i x ρ s' hx ⟨xs, done, r, v, w, rfl, rfl, nd', hl, rest, hr', he, hd⟩
    obtain ⟨hi, rfl⟩ := rangeL_at hx
    have hi : i < L.length := by omega
    refine ⟨trivial, ?_⟩
    have em : L.length - i = (L.length - (i + 1)) + 1 := by omega
    rw [em] at hr'
    have hc : 0 < cnt (xs.length - 1) (L.length - (i + 1)) := cnt_pos _ _ (by omega)
    obtain ⟨one, rest', g1, g2, g3⟩ := rows_step nd' hc hr'
    have ec : cnt (xs.length - 1) (L.length - (i + 1)) = fact (L.length - (i + 1)) := by
      rw [show xs.length - 1 = L.length - (i + 1) from by omega, cnt_self]
    rw [ec] at g1 g3 hc
    have hf := fact_small (L.length - (i + 1)) (by omega)
    rotate_right
    rw [show (L.length : Int) + (i : Int) * -1 - 1 = ((L.length - (i + 1) : Nat) : Int) from by omega]
    refine sp_orders (by omega) ?_
    rotate_right
    refine ⟨by unfold seqAt; rw [S.up_same]; rfl, ?_⟩
    rotate_right
    refine ⟨by omega, w_popAt (j := r / fact (L.length - (i + 1))) S.up_same (by simp) g1 (by show _ ≤ 16777216; omega) ?_⟩
    rotate_right
    refine ⟨by show _ ≤ 16777216; simp; omega, ?_⟩
    refine ⟨by omega, _, S.le_refl _, _, done ++ [one], r % fact (L.length - (i + 1)), some (.int ((L.length : Int) + (i : Int) * -1)), some (.int (fact (L.length - (i + 1)))), S.up_up, ?_, nd'.sublist (List.eraseIdx_sublist _ _), ?_, rest', g3, ?_, ?_⟩
    · push_cast
      rfl
    · rw [List.length_eraseIdx, if_pos (List.getElem?_eq_some_iff.mp g1).1]
      omega
    · rw [he, g2]; simp
    · simp [hd]
  · rintro ρ s' ⟨xs, done, r, v, w, rfl, rfl, nd', hl, rest, hr', he, hd⟩
    refine ⟨trivial, ?_⟩
    rotate_right
    refine ⟨s, S.le_up hp, ?_⟩
    rw [rangeL_len] at hr' 
    have e0 : L.length - ((L.length : Int) - 0).toNat = 0 := by omega
    rw [e0] at hr'
    have := (rows_mem 0 (List.mem_of_getElem? hr')).1
    rw [List.length_eq_zero_iff.mp this, List.append_nil] at he
    rw [← he]
    exact q
theorem sp_with_none {th0 : List D} {i : Int} {k : Nat} {s : S} {Q : Post} (th : Th th0) (hi : i < 0 ∨ (fact th0.length : Int) ≤ i) (q : Q .non s) : wpF prog (k + 2) 2 [.tup th0, .int i] s Q := by
  refine en_order_with rfl ?_
  unfold f_order_with
  rotate_right
  refine w_sorted (n := 1) rfl th.ok (by omega) th.al th.so fun p hp => ?_
  have hlen : (sortS s false th0).length = th0.length := sort_perm.length_eq
  have hle := th.le
  rotate_right
  simp -implicitDefEqProofs only [wpCm]
  by_cases h0 : (0 : Int) ≤ i
  · rw [decide_eq_true h0]
    rotate_right
    rw [S.up_same]
    rotate_right
    rw [hlen]
    refine sp_orders (by omega) ?_
    have h1 : decide (i < (fact th0.length : Int)) = false := by
      rw [decide_eq_false_iff_not]
      omega
    simp -implicitDefEqProofs only [wpCm, h1]
    rotate_right
    simp -implicitDefEqProofs only [Bool.not_false]
    rotate_right
    exact ⟨s, S.le_up hp, q⟩
  · rw [decide_eq_false h0]
    rotate_right
    simp -implicitDefEqProofs only [Bool.not_false]
    rotate_right
    exact ⟨s, S.le_up hp, q⟩
end K57
end

section
set_option Elab.async false
set_option linter.all false
set_option maxRecDepth 100000
set_option maxHeartbeats 0
namespace K57
open PySem PySem.W PySem.SeqAt PL

local macro_rules | `(tactic| rotate_right) => `(tactic| simp -implicitDefEqProofs only [st_asg, st_ife, st_ret, st_retN, st_expr, st_nil, st_cons, st_augS, tg_name, e_int, e_bin, e_bi, es_nil, es_cons, bin_addI, bin_addS, bin_addT, bin_addL, bin_subI, bin_mulI, bin_fdivI, bin_modI, bin_powI, bw_len, bw_abs, bw_int, bw_list, bw_tuple, bw_sorted, bw_sum, bw_all, bw_any, bw_max, bw_min, bw_isi, len_T, abs_I, int_I, aug_addI, aug_subI, cm_ltI, cm_leI, cm_gtI, cm_geI, wpMt, tru_bl, I_val,
  List.getD_cons_zero, List.getD_cons_succ, List.set_cons_zero, List.set_cons_succ, startV, List.map_cons, List.map_nil, List.length_cons, List.length_nil, Nat.reduceAdd, Nat.reduceSub, List.replicate, List.cons_append, List.nil_append, if_true, if_false, Bool.false_eq_true, reduceIte, Bool.not_true, Bool.not_false])
theorem e_int {C : Cs} {i : Int} {ρ : Vs} {s : S} {Q : Post} : wpE C (.int i) ρ s Q = Q (.int i) s := by simp only [wpE]
theorem e_var {C : Cs} {i : Nat} {ρ : Vs} {s : S} {Q : Post} {d : D} (h : ρ.getD i none = some d) : wpE C (.var i) ρ s Q = Q d s := by simp only [wpE, h]
theorem e_bin {C : Cs} {op : Op} {a b : E} {ρ : Vs} {s : S} {Q : Post} : wpE C (.bin op a b) ρ s Q = wpE C a ρ s fun x s1 => wpE C b ρ s1 fun y s2 => wpBin op x y s2 Q := by simp only [wpE]
theorem e_bi {C : Cs} {b : Bi} {es : List E} {ρ : Vs} {s : S} {Q : Post} : wpE C (.bi b es) ρ s Q = wpEs C es ρ s fun xs s1 => wpBi b xs s1 Q := by simp only [wpE]
theorem es_nil {C : Cs} {ρ : Vs} {s : S} {Q : List D → S → Prop} : wpEs C [] ρ s Q = Q [] s := by simp only [wpEs]
theorem es_cons {C : Cs} {e : E} {es : List E} {ρ : Vs} {s : S} {Q : List D → S → Prop} : wpEs C (e :: es) ρ s Q = wpE C e ρ s fun x s1 => wpEs C es ρ s1 fun xs s2 => Q (x :: xs) s2 := by simp only [wpEs]
theorem e_var_int {C : Cs} {i : Nat} {ρ : Vs} {s : S} {Q : Post} {d : D} (h : ρ.getD i none = some d) : wpE C (.var i) ρ s Q = Q d s := by simp only [wpE, h]
theorem cnt_succ (n m : Nat) : cnt n (m + 1) = n * cnt (n - 1) m := rfl
theorem sp_count {th0 : List D} {m k : Nat} {s : S} {Q : Post} (hl : th0.length ≤ 6) (hm : m ≤ th0.length) (q : Q (.int (cnt th0.length m)) s) : wpF prog (k + 1) 4 [.tup th0, .int m] s Q := by
  refine en_count_messages rfl ?_
  unfold f_count_messages
  simp -implicitDefEqProofs only [st_asg, st_cons, st_ret, st_nil, tg_name, e_int, startV, List.map_cons, List.map_nil, List.length_cons, List.length_nil, Nat.reduceAdd, Nat.reduceSub, List.replicate, List.cons_append, List.nil_append, List.set_cons_succ, List.set_cons_zero]
  refine for_of (wpF_mono _ _) (I_rng1 (wpF_mono _ _) ?_)
  rw [e_var (d := .int m) rfl]
  refine ⟨m, rfl, by omega, fun i ρ s' => s' = s ∧ ∃ (f : Nat) (v : Option D), ρ = [some (.tup th0), some (.int m), some (.int f), v] ∧ cnt th0.length m = f * cnt (th0.length - i) (m - i), ⟨rfl, 1, none, rfl, by simp⟩, ?_, ?_⟩
  · rintro i x ρ s' hx ⟨rfl, f, v, rfl, e⟩
    obtain ⟨hi, rfl⟩ := rangeL_at hx
    have hi : i < m := by omega
    refine ⟨trivial, ?_⟩
    rw [tg_name]
    simp -implicitDefEqProofs only [st_cons, st_nil, st_asg, e_bin, e_bi, es_cons, es_nil, bw_len, List.set_cons_succ, List.set_cons_zero]
    rw [e_var (d := .int f) rfl, e_var (d := .tup th0) rfl, len_T, e_var (d := .int (0 + (i : Int) * 1)) rfl, bin_subI, bin_mulI]
    simp -implicitDefEqProofs only [tg_name, List.set_cons_succ, List.set_cons_zero]
    have hb : -(2 ^ 64 : Int) < (th0.length : Int) - (0 + (i : Int) * 1) ∧ (th0.length : Int) - (0 + (i : Int) * 1) < 2 ^ 64 := by omega
    refine ⟨.inr hb, s', S.le_refl _, rfl, f * (th0.length - i), some (.int (0 + (i : Int) * 1)), ?_, ?_⟩
    · push_cast
      rw [show (th0.length : Int) - (0 + (i : Int) * 1) = ((th0.length - i : Nat) : Int) from by omega]
    · rw [e, show m - i = (m - (i + 1)) + 1 from by omega]
      rw [cnt_succ, Nat.mul_assoc, Nat.sub_sub]
  · rintro ρ s' ⟨rfl, f, v, rfl, e⟩
    refine ⟨trivial, ?_⟩
    simp only []
    rw [e_var (d := .int f) rfl]
    rw [rangeL_len] at e
    have : cnt th0.length m = f := by
      rw [e, show m - (m : Int).toNat = 0 from by omega]
      show f * 1 = f
      omega
    rw [← this]
    exact ⟨s', S.le_refl _, q⟩
end K57
end

section
set_option Elab.async false
set_option linter.all false
set_option maxRecDepth 100000
set_option maxHeartbeats 0
namespace K57
open PySem PySem.W PySem.SeqAt PL
local macro_rules | `(tactic| rotate_right) => `(tactic| simp -implicitDefEqProofs only [st_asg, st_ife, st_ret, st_retN, st_expr, st_nil, st_cons, st_augS, tg_name, wpE, wpT, wpEs, wpO, wpC, wpAnd, wpOr, wpAndT, wpOrT, bin_addI, bin_addS, bin_addT, bin_addL, bin_subI, bin_mulI, bin_fdivI, bin_modI, bin_powI, bw_len, bw_abs, bw_int, bw_list, bw_tuple, bw_sorted, bw_sum, bw_all, bw_any, bw_max, bw_min, bw_isi, len_T, abs_I, int_I, aug_addI, aug_subI, cm_ltI, cm_leI, cm_gtI, cm_geI, wpMt, tru_bl, I_val,
  List.getD_cons_zero, List.getD_cons_succ, List.set_cons_zero, List.set_cons_succ, startV, List.map_cons, List.map_nil, List.length_cons, List.length_nil, Nat.reduceAdd, Nat.reduceSub, List.replicate, List.cons_append, List.nil_append, if_true, if_false, Bool.false_eq_true, reduceIte, Bool.not_true, Bool.not_false])
theorem filter_eq (one : D) : ∀ xs : List D, (xs.filterMap fun o => if o = one then none else some o) = xs.filter (fun o => decide (o ≠ one))
  | [] => rfl
  | x :: xs => by
    rw [List.filterMap_cons, List.filter_cons, filter_eq one xs]
    by_cases e : x = one <;> simp [e]
theorem sp_first {L th0 row : List D} {n m k : Nat} {s : S} {Q : Post} (th : Th th0) (nd : L.Nodup) (hle : L.length ≤ 6) (hm : m ≤ L.length) (hL : ∀ t, sortS t false th0 = L) (hr : (rows L m)[n]? = some row) (q : Q (.tup row) s) : wpF prog (k + 1) 3 [.tup th0, .int n, .int m] s Q := by
  refine en_first_of_order rfl ?_
  unfold f_first_of_order
  rotate_right
  refine w_sorted (n := 1) rfl th.ok (by omega) th.al th.so fun p hp => ?_
  rw [hL]
  refine for_of (wpF_mono _ _) (I_rng1 (wpF_mono _ _) ?_)
  rotate_right
  refine ⟨m, rfl, by omega, fun i ρ s' => ∃ (xs done : List D) (r : Nat) (v w u : Option D), s' = s.up p (.lst xs) ∧ ρ = [some (.tup th0), some (.int r), some (.int m), some (.loc p), some (.tup done), v, w, u] ∧ xs.Nodup ∧ xs.length + i = L.length ∧
    ∃ rest, (rows xs (m - i))[r]? = some rest ∧ row = done ++ rest ∧ done.length = i, ⟨L, [], n, none, none, none, rfl, rfl, nd, rfl, row, by simpa using hr, rfl, rfl⟩, ?_, ?_⟩
  · rintro i x ρ s' hx ⟨xs, done, r, v, w, u, rfl, rfl, nd', hl, rest, hr', he, hd⟩
    obtain ⟨hi, rfl⟩ := rangeL_at hx
    have hi : i < m := by omega
    refine ⟨trivial, ?_⟩
    have em : m - i = (m - (i + 1)) + 1 := by omega
    rw [em] at hr'
    have hc : 0 < cnt (xs.length - 1) (m - (i + 1)) := cnt_pos _ _ (by omega)
    obtain ⟨one, rest', g1, g2, g3⟩ := rows_step nd' hc hr'
    have hf : cnt (xs.length - 1) (m - (i + 1)) ≤ 720 := Nat.le_trans (cnt_fact _ _) (fact_small _ (by omega))
    rotate_right
    refine for_of (wpF_mono _ _) (I_rng1 (wpF_mono _ _) ?_)
    rotate_right
    refine ⟨(m : Int) - (0 + (i : Int) * 1) - 1, rfl, by omega, fun j ρ s' => s' = s.up p (.lst xs) ∧ ∃ (f : Nat) (u : Option D), ρ = [some (.tup th0), some (.int r), some (.int m), some (.loc p), some (.tup done), some (.int (0 + (i : Int) * 1)), some (.int f), u] ∧
      f * cnt (xs.length - 1 - j) (m - (i + 1) - j) = cnt (xs.length - 1) (m - (i + 1)), ⟨rfl, 1, u, rfl, by simp⟩, ?_, ?_⟩
    · rintro j x ρ s' hx ⟨rfl, f, u, rfl, e⟩
      obtain ⟨hj, rfl⟩ := rangeL_at hx
      have hj : j < m - (i + 1) := by omega
      refine ⟨trivial, ?_⟩
      rotate_right
      refine len_L S.up_same ?_
      rotate_right
      refine ⟨.inr (by omega), _, S.le_refl _, rfl, f * (xs.length - 1 - j), some (.int (0 + (j : Int) * 1)), ?_, ?_⟩
      · push_cast
        rw [show (xs.length : Int) - 1 - (0 + (j : Int) * 1) = ((xs.length - 1 - j : Nat) : Int) from by omega]
      · rw [← e, show m - (i + 1) - j = (m - (i + 1) - (j + 1)) + 1 from by omega]
        show _ = f * ((xs.length - 1 - j) * cnt (xs.length - 1 - j - 1) (m - (i + 1) - (j + 1)))
        rw [Nat.mul_assoc, Nat.sub_sub _ j 1]
    · rintro ρ s' ⟨rfl, f, u, rfl, e⟩
      rw [rangeL_len, show m - (i + 1) - ((m : Int) - (0 + (i : Int) * 1) - 1).toNat = 0 from by omega] at e
      have ef : f = cnt (xs.length - 1) (m - (i + 1)) := by rw [← e]; show f = f * 1; omega
      refine ⟨trivial, ?_⟩
      rotate_right
      rw [ef]
      refine ⟨rv_lst ⟨nofun, nofun⟩ S.up_same, ?_⟩
      refine ⟨by omega, w_popAt (j := r / cnt (xs.length - 1) (m - (i + 1))) S.up_same (by simp) g1 (by show _ ≤ 16777216; omega) ?_⟩
      rotate_right
      refine ⟨by show _ ≤ 16777216; simp; omega, ?_⟩
      refine ⟨by omega, _, S.le_refl _, _, done ++ [one], r % cnt (xs.length - 1) (m - (i + 1)), some (.int (0 + (i : Int) * 1)), some (.int (cnt (xs.length - 1) (m - (i + 1)))), u, S.up_up, ?_, nd'.sublist (List.eraseIdx_sublist _ _), ?_, rest', g3, ?_, ?_⟩
      · push_cast
        rfl
      · rw [List.length_eraseIdx, if_pos (List.getElem?_eq_some_iff.mp g1).1]
        omega
      · rw [he, g2]; simp
      · simp [hd]
  · rintro ρ s' ⟨xs, done, r, v, w, u, rfl, rfl, nd', hl, rest, hr', he, hd⟩
    refine ⟨trivial, ?_⟩
    rotate_right
    refine ⟨s, S.le_up hp, ?_⟩
    rw [rangeL_len, show m - (m : Int).toNat = 0 from by omega] at hr'
    have := (rows_mem 0 (List.mem_of_getElem? hr')).1
    rw [List.length_eq_zero_iff.mp this, List.append_nil] at he
    rw [← he]
    exact q
theorem sp_rows : ∀ (m : Nat) {xs : List D} {k l : Nat} {s : S} {Q : Post}, seqAt s l = some xs → xs.Nodup → (∀ x ∈ xs, okD 1 x = true) → xs.length ≤ 6 → m ≤ xs.length →
    (∀ p, s p = none → Q (.loc p) (s.up p (.lst ((rows xs m).map D.tup)))) → wpF prog (k + m + 1) 10 [.loc l, .int m] s Q
  | 0, xs, k, l, s, Q, hs, nd, ho, hl, hm, q => by
    refine en__law_rows rfl ?_
    unfold f__law_rows
    rotate_right
    refine w_eq (op := true) (n := 0) rfl rfl (by omega) ?_
    rw [if_pos rfl, show decide (D.int ((0 : Nat) : Int) = D.int 0) = true from decide_eq_true rfl]
    rotate_right
    intro p hp
    exact ⟨_, S.le_refl _, q p hp⟩
  | m + 1, xs, k, l, s, Q, hs, nd, ho, hl, hm, q => by
    refine en__law_rows rfl ?_
    unfold f__law_rows
    rotate_right
    refine w_eq (op := true) (n := 0) rfl rfl (by omega) ?_
    rw [if_pos rfl, decide_eq_false (by intro h; injection h with h; omega)]
    rotate_right
    intro p hp
    refine for_of (wpF_mono _ _) ?_
    rotate_right
    have hsl : ∀ {t : S}, s.le t → seqAt t l = some xs := fun {t} h => by
      unfold seqAt at hs ⊢
      split at hs
      · next e => rw [h _ _ e]; exact hs
      · next e => rw [h _ _ e]; exact hs
      · cases hs
    have hlm : ((rows xs (m + 1)).map D.tup).length ≤ 720 := by
      rw [List.length_map, rows_len _ nd]
      exact Nat.le_trans (cnt_fact _ _) (fact_small _ hl)
    refine ⟨xs, hsl (S.le_up hp), fun i ρ s' => ∃ (g : Nat) (v w u : Option D), s g = none ∧ s' = s.up g (.lst (((xs.take i).flatMap fun one => (rows (xs.filter fun o => decide (o ≠ one)) m).map (one :: ·)).map D.tup)) ∧ ρ = [some (.loc l), some (.int ((m + 1 : Nat) : Int)), some (.loc g), v, w, u],
      ⟨p, none, none, none, hp, by simp, rfl⟩, ?_, ?_⟩
    · rintro i one ρ s' hx ⟨g, v, w, u, hg, rfl, rfl⟩
      have hi : i < xs.length := (List.getElem?_eq_some_iff.mp hx).1
      have hone : one ∈ xs := List.mem_of_getElem? hx
      refine ⟨hsl (S.le_up hg), ?_⟩
      generalize hF : (((xs.take i).flatMap fun one => (rows (xs.filter fun o => decide (o ≠ one)) m).map (one :: ·)).map D.tup) = F
      rotate_right
      refine ⟨xs, hsl (S.le_up hg), fun p1 hp1 => ?_⟩
      have h1 : s p1 = none := S.none_of hp1
      refine compL_of (fun o => if o = one then none else some o) hp1 (by show xs.length + 0 ≤ 16777216; omega) (fun acc => hsl (S.le_trans (S.le_up hg) (S.le_up hp1))) (fun x hx acc kk hk => ?_) ?_
      · simp -implicitDefEqProofs only [PL.bindC, wipeV]
        rotate_right
        refine w_eq (op := false) (n := 1) (ho x hx) (ho one hone) (by omega) ?_
        rw [if_neg (by simp)]
        have hk := hk _ (S.le_refl _)
        by_cases e : x = one
        · rw [decide_eq_true e]
          rw [if_pos e] at hk
          rotate_right
          exact hk
        · rw [decide_eq_false e]
          rw [if_neg e] at hk
          rotate_right
          exact hk
      rw [List.nil_append, show (xs.filterMap fun o => if o = one then none else some o) = xs.filter (fun o => decide (o ≠ one)) from filter_eq one xs, show (((m + 1 : Nat) : Int) - 1) = (m : Int) from by omega]
      have hfl := len_ne nd hone
      refine sp_rows m (k := k) seqAt_up (nd.filter _) (fun y hy => ho y (List.mem_filter.mp hy).1) (by omega) (by omega) fun p2 hp2 => ?_
      have h2 : s p2 = none := S.none_of (S.none_of hp2)
      refine ⟨_, seqAt_up, fun p3 hp3 => ?_⟩
      have h3 : s p3 = none := S.none_of (S.none_of (S.none_of hp3))
      have hl2 : ((rows (xs.filter fun o => decide (o ≠ one)) m).map D.tup).length ≤ 720 := by
        rw [List.length_map, rows_len _ (nd.filter _)]
        exact Nat.le_trans (cnt_fact _ _) (fact_small _ (by omega))
      have n3 : p2 ≠ p3 := by
        rintro rfl
        rw [S.up_same] at hp3
        cases hp3
      refine compL_of (fun d => match d with | .tup ys => some (.tup (one :: ys)) | _ => none) hp3 (by show _ + 0 ≤ 16777216; omega) (fun acc => ?_) (fun x hx acc kk hk => ?_) ?_
      · unfold seqAt
        rw [S.up_ne n3, S.up_same]
      · obtain ⟨ys, hys, rfl⟩ := List.mem_map.mp hx
        have hyl := (rows_mem _ hys).1
        simp -implicitDefEqProofs only [PL.bindC, wipeV]
        rotate_right
        exact ⟨by show 1 + ys.length ≤ 16777216; omega, hk _ (S.le_refl _)⟩
      have n1 : g ≠ p1 := by
        rintro rfl
        rw [S.up_same] at hp1
        cases hp1
      have n2 : g ≠ p2 := by
        rintro rfl
        rw [S.up_ne n1, S.up_same] at hp2
        cases hp2
      have n4 : g ≠ p3 := by
        rintro rfl
        rw [S.up_ne n2, S.up_ne n1, S.up_same] at hp3
        cases hp3
      have e3 : ((rows (xs.filter fun o => decide (o ≠ one)) m).map D.tup).filterMap (fun d => match d with | .tup ys => some (D.tup (one :: ys)) | _ => none) = ((rows (xs.filter fun o => decide (o ≠ one)) m).map (one :: ·)).map D.tup := by
        rw [List.filterMap_map, List.map_map, ← List.filterMap_eq_map]
        rfl
      have eT : xs.take (i + 1) = xs.take i ++ [one] := by
        rw [List.take_add_one, hx]; rfl
      have hlen : F.length + (((rows (xs.filter fun o => decide (o ≠ one)) m).map (one :: ·)).map D.tup).length ≤ 16777216 := by
        have : F.length ≤ i * 720 := by
          rw [← hF, List.length_map, flat_len (c := cnt (xs.length - 1) m) fun y hy => by rw [List.length_map, rows_len _ (nd.filter _), len_ne nd (List.mem_of_mem_take hy)]]
          refine Nat.mul_le_mul (by rw [List.length_take]; omega) ?_
          exact Nat.le_trans (cnt_fact _ _) (fact_small _ (by omega))
        rw [List.length_map] at hl2 ⊢
        rw [List.length_map]
        omega
      refine ⟨F, _, by rw [S.up_ne n4, S.up_ne n2, S.up_ne n1, S.up_same], S.up_same, ?_, fun p4 hp4 => ?_⟩
      · rw [List.nil_append, e3]; exact hlen
      · have h4 : s p4 = none := S.none_of (S.none_of (S.none_of (S.none_of hp4)))
        refine ⟨s.up p4 _, S.up_le (S.le_trans (S.le_trans (S.le_trans (S.le_up hg) (S.le_up hp1)) (S.le_up hp2)) (S.le_up hp3)), p4, some one, w, u, h4, ?_, rfl⟩
        rw [e3, eT, List.flatMap_append, List.map_append, hF]
        simp
    · rintro ρ s' ⟨g, v, w, u, hg, rfl, rfl⟩
      refine ⟨hsl (S.le_up hg), ?_⟩
      rotate_right
      refine ⟨_, S.le_refl _, ?_⟩
      rw [List.take_length]
      exact q g hg
end K57
end

section
set_option Elab.async false
set_option linter.all false
set_option maxRecDepth 100000
set_option maxHeartbeats 0
namespace K57
open PySem PySem.W PySem.SeqAt PL
local macro_rules | `(tactic| rotate_right) => `(tactic| simp -implicitDefEqProofs only [st_asg, st_ife, st_ret, st_retN, st_expr, st_nil, st_cons, st_augS, tg_name, wpE, wpT, wpEs, wpO, wpC, wpAnd, wpOr, wpAndT, wpOrT, bin_addI, bin_addS, bin_addT, bin_addL, bin_subI, bin_mulI, bin_fdivI, bin_modI, bin_powI, bw_len, bw_abs, bw_int, bw_list, bw_tuple, bw_sorted, bw_sum, bw_all, bw_any, bw_max, bw_min, bw_isi, len_T, abs_I, int_I, aug_addI, aug_subI, cm_ltI, cm_leI, cm_gtI, cm_geI, wpMt, tru_bl, I_val,
  List.getD_cons_zero, List.getD_cons_succ, List.set_cons_zero, List.set_cons_succ, startV, List.map_cons, List.map_nil, List.length_cons, List.length_nil, Nat.reduceAdd, Nat.reduceSub, List.replicate, List.cons_append, List.nil_append, if_true, if_false, Bool.false_eq_true, reduceIte, Bool.not_true, Bool.not_false])

/-! ## the law -/
structure Fx (w q : Nat) (xs : List D) (s : S) : Prop where
  w : ∃ a, s w = some (PLaw.wO q a)
  q : s q = some (.lst xs)
/-- lists stay -/
def Ext (s t : S) : Prop := ∀ b ys, s b = some (.lst ys) → t b = some (.lst ys)
theorem Ext.of_le {s t : S} (h : s.le t) : Ext s t := fun b ys e => h _ _ e
theorem Ext.trans {s t u : S} (h : Ext s t) (h' : Ext t u) : Ext s u := fun b ys e => h' _ _ (h _ _ e)
theorem Fx.le {w q : Nat} {xs : List D} {s t : S} (h : Fx w q xs s) (l : s.le t) : Fx w q xs t := ⟨h.w.imp fun a e => l _ _ e, l _ _ h.q⟩
theorem nxt {w q : Nat} {xs : List D} {s : S} {Q : Post} {k m : Nat} (h : Fx w q xs s) (dr : PLaw.Dr xs) (hl : xs.length ≤ 1000) (hm : 0 < m) (post : ∀ (r : Nat) (t : S), r < m → Fx w q xs t → Ext s t → Q (.int r) t) : wpF prog (k + 1) 7 [.loc w, .int m] s Q := by
  obtain ⟨a, ha⟩ := h.w
  have hne : ∀ {b ys}, s b = some (.lst ys) → b ≠ w := fun {b ys} e => by
    rintro rfl
    rw [ha] at e
    cases e
  refine PLaw.sp_next (P := prog) rfl ha h.q dr hl hm fun r hr => post r _ hr ⟨⟨a + 1, S.up_same⟩, by rw [S.up_ne (hne h.q)]; exact h.q⟩ fun b ys e => by rw [S.up_ne (hne e)]; exact e
def Cards (ths : List D) : Prop := ths.Nodup ∧ ∀ x ∈ ths, ∃ a b : Nat, x = .tup [.int a, .int b]
theorem Cards.th {ths : List D} (h : Cards ths) (hl : ths.length ≤ 6) : Th ths := by
  refine ⟨fun x hx => ?_, fun x hx y hy => ?_, .inl fun d hd => ?_, hl⟩
  · obtain ⟨a, b, rfl⟩ := h.2 x hx
    rfl
  · obtain ⟨a, b, rfl⟩ := h.2 x hx
    obtain ⟨a', b', rfl⟩ := h.2 y hy
    simp [datP, datPs, alike, alikeAll]
  · obtain ⟨x, hx, rfl⟩ := List.mem_map.mp hd
    obtain ⟨a, b, rfl⟩ := h.2 x hx
    exact ⟨_, _, rfl⟩
theorem Cards.perm {xs ys : List D} (h : Cards xs) (p : xs.Perm ys) : Cards ys := ⟨p.nodup_iff.mp h.1, fun y hy => h.2 y (p.mem_iff.mpr hy)⟩
theorem Cards.sort {ths ys : List D} (h : Cards ths) (hl : ths.length ≤ 6) (p : ths.Perm ys) (s t : S) : sortS t false ys = sortS s false ths := by
  have th := h.th hl
  exact (sort_canon (n := 1) (by omega) th.ok th.al p).symm
theorem short_row {row : List D} (h : ∀ x ∈ row, ∃ a b : Nat, x = .tup [.int a, .int b]) (hl : row.length ≤ 6) : PLaw.shortD 3 (.tup row) = true := by
  simp only [PLaw.shortD, Bool.and_eq_true, decide_eq_true_eq, List.all_eq_true]
  refine ⟨by omega, fun x hx => ?_⟩
  obtain ⟨a, b, rfl⟩ := h x hx
  simp [PLaw.shortD]
theorem alike_true {k : Nat} {d : D} {s : S} {Q : Post} (hs : PLaw.shortD 3 d = true) (hk : 4 ≤ k) (q : Q (.bl true) s) : wpF prog k 9 [d, d] s Q :=
  wpF_up hk (PLaw.sp_alike (P := prog) (j := 9) rfl 3 d 0 s Q hs q)
/-- more and more cards -/
theorem things_loop {w q : Nat} {xs : List D} (dr : PLaw.Dr xs) (hxl : xs.length ≤ 1000) {s : S} {k n : Nat} {Kd : Ds} {v2 v4 v5 v6 v7 v8 : Option D} {g : Nat} (hF : Fx w q xs s) (hg : s g = some (.lst [])) (hn : n ≤ 6)
    (post : ∀ (t : S) (g : Nat) (ths : List D) (v4 v5 : Option D), Fx w q xs t → t g = some (.lst ths) → Cards ths → ths.length ≤ n → Kd.nx [some (.loc 0), some (.loc w), v2, some (.loc g), v4, v5, v6, v7, v8] t) :
    forL (fun _ => True) (fun x ρ s kk => wpTg (wpF prog (k + 1)) (.name 4) x ρ s fun ρ2 s2 => wpSs (wpF prog (k + 1)) [.asg (.name 5) (.tup [(.call 7 [(.var 1), (.int 4)]), (.call 7 [(.var 1), (.int 13)])]), .asg (.name 3) (.bin .add (.var 3) (.ife (.cmp .notin (.var 5) (.var 3)) (.lst [(.var 5)]) (.lst [])))] ⟨kk, Kd.rt, Kd.nx, kk⟩ ρ2 s2)
      Kd.nx (rangeL 0 n 1) [some (.loc 0), some (.loc w), v2, some (.loc g), v4, v5, v6, v7, v8] s := by
  refine forL_of (fun x ρ s k1 k' hk h => ?_) (fun i ρ s' => Fx w q xs s' ∧ ∃ (g : Nat) (ths : List D) (v4 v5 : Option D), s' g = some (.lst ths) ∧ Cards ths ∧ ths.length ≤ i ∧ ρ = [some (.loc 0), some (.loc w), v2, some (.loc g), v4, v5, v6, v7, v8])
    ⟨hF, g, [], v4, v5, hg, ⟨List.nodup_nil, fun x hx => absurd hx (by simp)⟩, by simp, rfl⟩ ?_ ?_
  · exact wpTg_mono (wpF_mono _ _) (.name 4) (fun ρ2 s2 h3 => wpSs_mono (wpF_mono _ _) _ (show DsLe ⟨k1, Kd.rt, Kd.nx, k1⟩ ⟨k', Kd.rt, Kd.nx, k'⟩ from ⟨hk, fun _ _ q => q, fun _ _ q => q, hk⟩) h3) h
  · rintro i x ρ s' hx ⟨hF, g, ths, v4, v5, hg, hc, hl, rfl⟩
    obtain ⟨hi, rfl⟩ := rangeL_at hx
    refine ⟨trivial, ?_⟩
    rotate_right
    refine nxt (m := 4) hF dr hxl (by omega) fun a t1 ha hF1 e1 => ?_
    rotate_right
    refine nxt (m := 13) hF1 dr hxl (by omega) fun b t2 hb hF2 e2 => ?_
    have hg2 := e2 _ _ (e1 _ _ hg)
    have th := hc.th (by omega)
    refine .inl ⟨ths, datP (.tup [.int a, .int b]), ths.map datP, by unfold seqAt; rw [hg2], dat_ok 1 _ 60 rfl (by omega), dats_ok th.ok (by omega), ?_⟩
    rw [any_ok th.ok rfl]
    by_cases hm : D.tup [.int a, .int b] ∈ ths
    · rw [decide_eq_true hm]
      rotate_right
      intro p hp
      have hp' := S.le_up (o := .lst []) hp
      rotate_right
      refine ⟨ths, [], hp' _ _ hg2, S.up_same, by show _ ≤ 16777216; simp; omega, fun p2 hp2 => ?_⟩
      have l2 := S.le_up (o := .lst (ths ++ [])) hp2
      refine ⟨_, S.le_refl _, (hF2.le hp').le l2, p2, ths, some (.int (0 + (i : Int) * 1)), some (.tup [.int a, .int b]), ?_, hc, by omega, rfl⟩
      rw [S.up_same, List.append_nil]
    · rw [decide_eq_false hm]
      rotate_right
      intro p hp
      have hp' := S.le_up (o := .lst [.tup [.int a, .int b]]) hp
      rotate_right
      refine ⟨ths, [.tup [.int a, .int b]], hp' _ _ hg2, S.up_same, by show _ ≤ 16777216; simp; omega, fun p2 hp2 => ?_⟩
      have l2 := S.le_up (o := .lst (ths ++ [.tup [.int a, .int b]])) hp2
      refine ⟨_, S.le_refl _, (hF2.le hp').le l2, p2, ths ++ [.tup [.int a, .int b]], some (.int (0 + (i : Int) * 1)), some (.tup [.int a, .int b]), S.up_same, ⟨?_, fun x hx => ?_⟩, by simp; omega, rfl⟩
      · rw [List.nodup_append]
        refine ⟨hc.1, by simp, fun x hx y hy => ?_⟩
        simp at hy
        subst hy
        rintro rfl
        exact hm hx
      · rcases List.mem_append.mp hx with h | h
        · exact hc.2 x h
        · simp at h
          exact ⟨a, b, h⟩
  · rintro ρ s' ⟨hF, g, ths, v4, v5, hg, hc, hl, rfl⟩
    rw [rangeL_len] at hl
    exact ⟨trivial, post s' g ths v4 v5 hF hg hc hl⟩
end K57
end

section
set_option Elab.async false
set_option linter.all false
set_option maxRecDepth 100000
set_option maxHeartbeats 0
namespace K57
open PySem PySem.W PySem.SeqAt PL
local macro_rules | `(tactic| rotate_right) => `(tactic| simp -implicitDefEqProofs only [st_asg, st_ife, st_ret, st_retN, st_expr, st_nil, st_cons, st_augS, tg_name, wpE, wpT, wpEs, wpO, wpC, wpAnd, wpOr, wpAndT, wpOrT, bin_addI, bin_addS, bin_addT, bin_addL, bin_subI, bin_mulI, bin_fdivI, bin_modI, bin_powI, bw_len, bw_abs, bw_int, bw_list, bw_tuple, bw_sorted, bw_sum, bw_all, bw_any, bw_max, bw_min, bw_isi, len_T, abs_I, int_I, aug_addI, aug_subI, cm_ltI, cm_leI, cm_gtI, cm_geI, wpMt, tru_bl, I_val,
  List.getD_cons_zero, List.getD_cons_succ, List.set_cons_zero, List.set_cons_succ, startV, List.map_cons, List.map_nil, List.length_cons, List.length_nil, Nat.reduceAdd, Nat.reduceSub, List.replicate, List.cons_append, List.nil_append, if_true, if_false, Bool.false_eq_true, reduceIte, Bool.not_true, Bool.not_false])

def thingsBody : List PL.St := [.asg (.name 5) (.tup [(.call 7 [(.var 1), (.int 4)]), (.call 7 [(.var 1), (.int 13)])]), .asg (.name 3) (.bin .add (.var 3) (.ife (.cmp .notin (.var 5) (.var 3)) (.lst [(.var 5)]) (.lst [])))]
theorem things_stmt {w q : Nat} {xs : List D} (dr : PLaw.Dr xs) (hxl : xs.length ≤ 1000) {s : S} {k : Nat} {Kd : Ds} {v2 v4 v5 v6 v7 v8 : Option D} {g : Nat} (hF : Fx w q xs s) (hg : s g = some (.lst []))
    (post : ∀ (t : S) (g : Nat) (ths : List D) (v4 v5 : Option D), Fx w q xs t → t g = some (.lst ths) → Cards ths → ths.length ≤ 5 → Kd.nx [some (.loc 0), some (.loc w), v2, some (.loc g), v4, v5, v6, v7, v8] t) :
    wpS (wpF prog (k + 1)) (.for (.name 4) (.rng [(.bin .add (.int 1) (.call 7 [(.var 1), (.int 5)]))]) [.asg (.name 5) (.tup [(.call 7 [(.var 1), (.int 4)]), (.call 7 [(.var 1), (.int 13)])]), .asg (.name 3) (.bin .add (.var 3) (.ife (.cmp .notin (.var 5) (.var 3)) (.lst [(.var 5)]) (.lst [])))]) Kd [some (.loc 0), some (.loc w), v2, some (.loc g), v4, v5, v6, v7, v8] s := by
  rw [st_for]
  have h : wpE (wpF prog (k + 1)) (.bin .add (.int 1) (.call 7 [(.var 1), (.int 5)])) [some (.loc 0), some (.loc w), v2, some (.loc g), v4, v5, v6, v7, v8] s fun y s2 => ∃ r : Nat, r < 5 ∧ y = .int (1 + (r : Int)) ∧ Fx w q xs s2 ∧ Ext s s2 := by
    rotate_right
    refine nxt (m := 5) hF dr hxl (by omega) fun a t1 ha hF1 e1 => ?_
    rotate_right
    exact ⟨a, ha, rfl, hF1, e1⟩
  refine I_rng1 (wpF_mono _ _) (wpE_mono (wpF_mono _ _) _ (fun y s2 ⟨r, hr, e, hF2, hE⟩ => ?_) h)
  subst e
  refine ⟨1 + (r : Int), rfl, by omega, ?_⟩
  rw [show (1 + (r : Int)).toNat = 1 + r from by omega]
  exact things_loop (n := 1 + r) dr hxl hF2 (hE _ _ hg) (by omega) fun t g ths v4 v5 a b c d => post t g ths v4 v5 a b c (by omega)
theorem law_true (ns : List Int) (hns : ns.length ≤ 63) : wpF prog 40 11 [.loc 0] (S0 ns) fun v _ => v = .bl true := by
  refine en_law rfl ?_
  unfold f_law
  rotate_right
  intro w hw
  have h0 : (S0 ns) 0 = some (.rol (ns.map D.int)) := rfl
  have h0w : (0 : Nat) ≠ w := S.ne_of h0 hw
  refine PLaw.sp_draws (P := prog) (many := 400) (ns := ns) rfl (by rw [S.up_ne h0w]; exact h0) hns (by omega) fun q xs hq dr hxl => ?_
  have hqw : q ≠ w := by
    rintro rfl
    rw [S.up_same] at hq
    cases hq
  rotate_right
  refine ⟨by rw [S.up_ne (Ne.symm hqw), S.up_same], ?_⟩
  have hxl : xs.length ≤ 1000 := by omega
  refine for_of (wpF_mono _ _) (I_rng1 (wpF_mono _ _) ?_)
  rotate_right
  refine ⟨5, rfl, by omega, fun i ρ s' => Fx w q xs s' ∧ ∃ v2 v3 v4 v5 v6 v7 v8 : Option D, ρ = [some (.loc 0), some (.loc w), v2, v3, v4, v5, v6, v7, v8], ⟨⟨⟨0, S.up_same⟩, by rw [S.up_ne hqw, S.up_same]⟩, none, none, none, none, none, none, none, rfl⟩, ?_, ?_⟩
  · rintro i x ρ s ht ⟨hF, v2, v3, v4, v5, v6, v7, v8, rfl⟩
    refine ⟨trivial, ?_⟩
    rotate_right
    intro g0 hg0
    refine things_stmt dr hxl (hF.le (S.le_up hg0)) S.up_same fun t g ths v4 v5 hF2 hg hc hl => ?_
    have th := hc.th (by omega)
    rotate_right
    refine w_sorted (n := 1) (by unfold itemsOf seqAt; simp only [hg]) th.ok (by omega) th.al th.so fun p1 hp1 => ?_
    generalize hLd : sortS t false ths = L at *
    have hL : ∀ u, sortS u false ths = L := fun u => by rw [← hLd]; exact hc.sort (by omega) (List.Perm.refl _) t u
    have pL : L.Perm ths := by rw [← hLd]; exact sort_perm
    have cL : Cards L := hc.perm pL.symm
    have lL : L.length = ths.length := pL.length_eq
    have thL := cL.th (by omega)
    have l1 := S.le_up (o := .lst L) hp1
    refine len_L (l1 _ _ hg) ?_
    refine wpF_up (k := 0 + ths.length + 1) (by omega) (sp_rows ths.length (k := 0) seqAt_up cL.1 thL.ok thL.le (by omega) fun p2 hp2 => ?_)
    generalize hR : rows L ths.length = R at *
    have nR : R.length = fact ths.length := by rw [← hR, rows_len _ cL.1, lL, cnt_self]
    have pR : 0 < R.length := by
      rw [nR, ← cnt_self]
      exact cnt_pos _ _ (Nat.le_refl _)
    have l2 := S.le_up (o := .lst (R.map D.tup)) hp2
    have hF3 := (hF2.le l1).le l2
    have hg3 := l2 _ _ (l1 _ _ hg)
    have he3 : ((t.up p1 (.lst L)).up p2 (.lst (R.map D.tup))) p2 = some (.lst (R.map D.tup)) := S.up_same
    generalize (t.up p1 (.lst L)).up p2 (.lst (R.map D.tup)) = t3 at hF3 hg3 he3
    have lR : (R.map D.tup).length = R.length := by rw [List.length_map]
    refine for_of (wpF_mono _ _) ?_
    rw [I_val]
    have hlist : wpE (wpF prog 39) (.lst [(.int 0), (.bin .sub (.bi .len [(.var 6)]) (.int 1)), (.call 7 [(.var 1), (.bi .len [(.var 6)])]), (.call 7 [(.var 1), (.bi .len [(.var 6)])])]) [some (.loc 0), some (.loc w), some x, some (.loc g), v4, v5, some (.loc p2), v7, v8] t3
        fun d u => ∃ (p3 : Nat) (ks : List Nat), d = .loc p3 ∧ (∀ n ∈ ks, n < R.length) ∧ u p3 = some (.lst (ks.map fun n => D.int (n : Nat))) ∧ Fx w q xs u ∧ u g = some (.lst ths) ∧ u p2 = some (.lst (R.map D.tup)) := by
      rotate_right
      refine len_L he3 ?_
      rotate_right
      refine len_L he3 ?_
      rw [lR]
      refine nxt (m := R.length) hF3 dr hxl pR fun a t4 ha hF4 e4 => ?_
      rotate_right
      refine len_L (e4 _ _ he3) ?_
      rw [lR]
      refine nxt (m := R.length) hF4 dr hxl pR fun b t5 hb hF5 e5 => ?_
      rotate_right
      intro p3 hp3
      have l3 := S.le_up (o := .lst [.int 0, .int ((R.length : Int) - 1), .int (a : Int), .int (b : Int)]) hp3
      refine ⟨p3, [0, R.length - 1, a, b], rfl, ?_, ?_, hF5.le l3, l3 _ _ (e5 _ _ (e4 _ _ hg3)), l3 _ _ (e5 _ _ (e4 _ _ he3))⟩
      · intro n hn
        simp only [List.mem_cons, List.not_mem_nil, or_false] at hn
        rcases hn with rfl | rfl | rfl | rfl <;> omega
      · rw [S.up_same]
        simp only [List.map_cons, List.map_nil]
        rw [show ((R.length - 1 : Nat) : Int) = (R.length : Int) - 1 from by omega]
        rfl
    refine wpE_mono (wpF_mono _ _) _ (fun d t5 ⟨p3, ks, e, hks, hp3, hF5, hg5, he5⟩ => ?_) hlist
    subst e
    have fromRow : ∀ {m n : Nat} {row : List D}, (rows L m)[n]? = some row → m ≤ L.length → Cards row ∧ row.length = m ∧ PLaw.shortD 3 (.tup row) = true := fun {m n row} h hm => by
      have hmem := List.mem_of_getElem? h
      have h1 := rows_mem _ hmem
      have hc2 : ∀ x ∈ row, ∃ a b : Nat, x = .tup [.int a, .int b] := fun x hx => cL.2 x (h1.2 x hx)
      exact ⟨⟨rows_nodup _ hmem, hc2⟩, h1.1, short_row hc2 (by omega)⟩
    refine ⟨_, by unfold seqAt; rw [hp3], fun i ρ s' => Fx w q xs s' ∧ s' g = some (.lst ths) ∧ s' p2 = some (.lst (R.map D.tup)) ∧ s' p3 = some (.lst (ks.map fun n => D.int (n : Nat))) ∧ ∃ v4, ρ = [some (.loc 0), some (.loc w), some x, some (.loc g), v4, v5, some (.loc p2), v7, v8],
      ⟨hF5, hg5, he5, hp3, v4, rfl⟩, ?_, ?_⟩
    · rintro i2 y ρ u hy ⟨hFu, hgu, heu, hpu, v4, rfl⟩
      refine ⟨by show seqAt u p3 = _; unfold seqAt; rw [hpu], ?_⟩
      rw [List.getElem?_map] at hy
      obtain ⟨n, hn, rfl⟩ := Option.map_eq_some_iff.mp hy
      have hn := hks n (List.mem_of_getElem? hn)
      have hrow : (rows L L.length)[n]? = some R[n] := by rw [lL, hR]; exact List.getElem?_eq_getElem hn
      generalize R[n] = row at hrow
      obtain ⟨crow, lrow, srow⟩ := fromRow hrow (Nat.le_refl _)
      have hix : (R.map D.tup)[n]? = some (.tup row) := by
        rw [lL, hR] at hrow
        rw [List.getElem?_map, hrow]; rfl
      have prow : row.Perm ths := (rows_perm L.length cL.1 rfl (List.mem_of_getElem? hrow)).trans pL
      rotate_right
      refine ⟨ths, by unfold itemsOf seqAt; simp only [hgu], ?_⟩
      refine sp_with (k := 37) (L := L) (row := row) th cL.1 thL.le hL hrow ?_
      refine w_ixL (j := n) (by unfold seqAt; rw [heu]) rfl hix ?_
      refine alike_true srow (by omega) ?_
      rotate_right
      refine w_ixL (j := n) (by unfold seqAt; rw [heu]) rfl hix ?_
      refine sp_place (k := 38) (L := L) (row := row) (n := n) (crow.th (by omega)) cL.1 thL.ok (by omega) thL.le (fun u' => (hc.sort (by omega) prow.symm u' u').trans (hL u')) (by rw [lrow]; exact hrow) ?_
      refine alike_true rfl (by omega) ?_
      rotate_right
      exact ⟨u, S.le_refl _, hFu, hgu, heu, hpu, _, rfl⟩
    · rintro ρ u ⟨hFu, hgu, heu, hpu, v4, rfl⟩
      refine ⟨by show seqAt u p3 = _; unfold seqAt; rw [hpu], ?_⟩
      have hit : itemsOf u (.loc g) = some ths := by unfold itemsOf seqAt; simp only [hgu]
      rotate_right
      refine ⟨ths, hit, ?_⟩
      refine len_L heu ?_
      rw [lR]
      refine sp_with_none (k := 37) th (.inr (by rw [nR]; exact Int.le_refl _)) ?_
      refine alike_true rfl (by omega) ?_
      rotate_right
      refine ⟨ths, hit, ?_⟩
      refine sp_with_none (k := 37) th (.inl (by omega)) ?_
      refine alike_true rfl (by omega) ?_
      rotate_right
      refine len_L hgu ?_
      rotate_right
      rw [show ((ths.length : Int) + 1) = ((ths.length + 1 : Nat) : Int) from by push_cast; rfl]
      refine nxt (m := ths.length + 1) hFu dr hxl (by omega) fun many t6 hmany hF6 e6 => ?_
      have hg6 := e6 _ _ hgu
      rotate_right
      refine w_sorted (n := 1) (by unfold itemsOf seqAt; simp only [hg6]) th.ok (by omega) th.al th.so fun p7 hp7 => ?_
      rw [hL]
      have l7 := S.le_up (o := .lst L) hp7
      refine wpF_up (k := 0 + many + 1) (by omega) (sp_rows many (k := 0) seqAt_up cL.1 thL.ok thL.le (by omega) fun p8 hp8 => ?_)
      have l8 := S.le_up (o := .lst ((rows L many).map D.tup)) hp8
      have hF8 := (hF6.le l7).le l8
      have hg8 := l8 _ _ (l7 _ _ hg6)
      have he8 : ((t6.up p7 (.lst L)).up p8 (.lst ((rows L many).map D.tup))) p8 = some (.lst ((rows L many).map D.tup)) := S.up_same
      generalize (t6.up p7 (.lst L)).up p8 (.lst ((rows L many).map D.tup)) = t8 at hF8 hg8 he8
      have lR2 : ((rows L many).map D.tup).length = cnt ths.length many := by rw [List.length_map, rows_len _ cL.1, lL]
      have hit8 : itemsOf t8 (.loc g) = some ths := by unfold itemsOf seqAt; simp only [hg8]
      refine ⟨ths, hit8, ?_⟩
      refine sp_count (k := 38) th.le (by omega) ?_
      refine len_L he8 ?_
      rw [lR2]
      refine alike_true rfl (by omega) ?_
      rotate_right
      refine len_L he8 ?_
      rw [lR2]
      refine nxt (m := cnt ths.length many) hF8 dr hxl (cnt_pos _ _ (by omega)) fun n t9 hn hF9 e9 => ?_
      have hg9 := e9 _ _ hg8
      have he9 := e9 _ _ he8
      have hit9 : itemsOf t9 (.loc g) = some ths := by unfold itemsOf seqAt; simp only [hg9]
      have hlen : n < (rows L many).length := by rw [rows_len _ cL.1, lL]; exact hn
      have hrow : (rows L many)[n]? = some (rows L many)[n] := List.getElem?_eq_getElem hlen
      generalize (rows L many)[n] = row at hrow
      obtain ⟨crow, lrow, srow⟩ := fromRow hrow (by omega)
      have hix : ((rows L many).map D.tup)[n]? = some (.tup row) := by rw [List.getElem?_map, hrow]; rfl
      rotate_right
      refine ⟨ths, hit9, ?_⟩
      refine sp_first (k := 38) (L := L) (row := row) th cL.1 thL.le (by omega) hL hrow ?_
      refine w_ixL (j := n) (by unfold seqAt; rw [he9]) rfl hix ?_
      refine alike_true srow (by omega) ?_
      rotate_right
      refine ⟨ths, hit9, ?_⟩
      refine w_ixL (j := n) (by unfold seqAt; rw [he9]) rfl hix ?_
      refine sp_message (k := 38) (L := L) (row := row) (n := n) th cL.1 thL.ok (by omega) thL.le hL (by rw [lrow]; exact hrow) ?_
      refine alike_true rfl (by omega) ?_
      rotate_right
      exact ⟨_, S.le_refl _, hF9, _, _, _, _, _, _, _, rfl⟩
  · rintro ρ s ⟨hF, v2, v3, v4, v5, v6, v7, v8, rfl⟩
    refine ⟨trivial, ?_⟩
    rotate_right
    exact ⟨s, S.le_refl _, rfl⟩
end K57
end

section
set_option Elab.async false
set_option linter.all false
set_option maxRecDepth 100000
set_option maxHeartbeats 0
namespace K57
open PySem PySem.Spec PyProof.Rows L2
open PL hiding St

theorem binds_all : ∀ d ∈ dis, BindsB d := by
  intro d hd
  simp only [dis, List.mem_cons, List.not_mem_nil, or_false] at hd
  rcases hd with rfl | rfl | rfl | rfl | rfl | rfl | rfl | rfl | rfl | rfl | rfl | rfl
  · exact fun _ _ _ _ _ _ us hl => match us, hl with | [_], _ => rfl
  · exact fun _ _ _ _ _ _ us hl => match us, hl with | [_], _ => rfl
  · exact fun _ _ _ _ _ _ us hl => match us, hl with | [_, _], _ => rfl
  · exact fun _ _ _ _ _ _ us hl => match us, hl with | [_, _, _], _ => rfl
  · exact fun _ _ _ _ _ _ us hl => match us, hl with | [_, _], _ => rfl
  · exact fun _ _ _ _ _ _ us hl => match us, hl with | [_, _], _ => rfl
  · exact fun _ _ _ _ _ _ us hl => match us, hl with | [_, _], _ => rfl
  · exact fun _ _ _ _ _ _ us hl => match us, hl with | [_, _], _ => rfl
  · exact fun _ _ _ _ _ _ us hl => match us, hl with | [_, _], _ => rfl
  · exact fun _ _ _ _ _ _ us hl => match us, hl with | [_, _], _ => rfl
  · exact fun _ _ _ _ _ _ us hl => match us, hl with | [_, _], _ => rfl
  · exact fun _ _ _ _ _ _ us hl => match us, hl with | [_], _ => rfl
abbrev R : PySem.W.OpenRow := PySem.W.OpenLaw.row PySem.Challenge.rw_trickward_k57_messages_by_orders
abbrev hk : PySem.W.Hook := He.hookD 4 (faOf dis G.free) (dis.map DI.defD)
def ob (s : PySem.W.SharedT) : He.AlD := He.obsDG 4 (faOf dis G.free) (dis.map DI.defD) (HandSHeadRun.getT s)
theorem ob_eq (s : PySem.W.SharedT) : ob s = hk.obs s.abs := He.obsDG_eq (HandSHeadRun.getT_eq s)
theorem run (w : World) : HandSHeadRun.RunEq R (PySem.W.view R.prog [14]) hk ob 2000 ["orders", "place_of_order", "order_with", "first_of_order", "count_messages", "message_of", "_law_draws", "_law_next", "_law_pick", "_law_alike", "_law_rows"] w := by
  intro os
  kernel_rfl
end K57
open PySem PySem.W PySem.Calls PyProof.Rows
theorem PySem.Challenge.cw_trickward_k57_messages_by_orders_holds : PySem.Challenge.rw_trickward_k57_messages_by_orders.Holds := by
  w_on; o_law
  refine HandSHeadRun.head_any (r := OpenLaw.row PySem.Challenge.rw_trickward_k57_messages_by_orders) (q := view (OpenLaw.row PySem.Challenge.rw_trickward_k57_messages_by_orders).prog [14]) (H := K57.hk) (ob := K57.ob) (M := 2000) (loose := ["orders", "place_of_order", "order_with", "first_of_order", "count_messages", "message_of", "_law_draws", "_law_next", "_law_pick", "_law_alike", "_law_rows"]) (d := HandSHeadRun.topDef (OpenLaw.row PySem.Challenge.rw_trickward_k57_messages_by_orders).prog 14) (kwd := []) K57.ob_eq
    (by kernel_rfl) (fun s => by kernel_rfl) K57.run (by kernel_rfl) (by kernel_rfl) (by kernel_rfl) (by rfl) (by first | assumption | decide +kernel) (by decide +kernel) ⟨rfl, rfl, rfl, rfl, rfl, by decide +kernel⟩ ?hw ?hc
  case hw => w_witness2
  case hc =>
    refine L2.walk_ofE (l := PySem.Challenge.rw_trickward_k57_messages_by_orders) (n := 63) (k := 40) (x := "script") (CX := L2.CX0) rfl (by decide) (by kernel_rfl) ⟨rfl, by decide, by decide⟩ ?F (fun _ _ _ _ z => z)
    intro w mg fa h Y Gn hmg0
    obtain ⟨K, KX, c⟩ := Y
    have e0 : (HandSHeadRun.topDef (OpenLaw.row PySem.Challenge.rw_trickward_k57_messages_by_orders).prog 14).name = (K57.d_law).name := by kernel_rfl
    obtain ⟨fd, hb, hF⟩ := PL.facts_of (prog := (PySem.Challenge.rw_trickward_k57_messages_by_orders).prog) (w := w) (P := K57.prog) (k := 40) (i := 11) (d := K57.d_law) KX Gn (by rw [← e0]; exact hmg0) c (by decide +kernel) (by decide +kernel) K57.ok_all K57.binds_all rfl rfl K57.law_true
    exact ⟨K, fd, PL.spLaw K K57.prog 40 11, KX, hb, fun H a ns hl hO hS => PL.law_start H a ns hl hO hS, hF⟩
end
