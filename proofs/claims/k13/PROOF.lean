import PyProof.Rows.All
import Wide.All
import OpenK.AllK
import Wide.FinOn
import HandS.ForMost
import HandS.Wide
import HandS.TupAny
import HandS.Deep
import HandS.IsInst
import HandS.Style
import HandS.More
import HandS.Conv
import HandS.Steps
import KE.SortData
import KE.KDictPairs
import KE.KDictKeyed
import KE.KEqDict
import KE.KDictCopyH
import HandS.Codes
import HandS.TryOnly
import HandS.Small
import HandS.Strs
import HandS.TupSets
import HandS.SetKeys
import HandS.EndBits
import HandS.Defaults
import PySem.Challenge.RW_toybags_k13_lacks_and_houses
set_option Elab.async false
set_option linter.all false
set_option maxRecDepth 100000
set_option maxHeartbeats 16000000
section
/-! A small language of values, and what its programs come to. -/
namespace Ti

/-- plain data: lists, dicts and objects as values -/
inductive D where
  | non | bl (b : Bool) | int (i : Int) | str (x : String)
  | tup (xs : List D) | lst (xs : List D) | dct (kvs : List (D × D)) | scr (xs : List D) | ins (c : String) (fs : List (String × D)) | dcn (ks : List D)
  deriving Inhabited

mutual
/-- == -/
def D.eqv : D → D → Bool
  | .non, .non => true
  | .bl a, .bl b => a == b
  | .bl a, .int j => (if a then 1 else 0) == j
  | .int i, .bl b => i == (if b then 1 else 0)
  | .int i, .int j => i == j
  | .str x, .str y => x == y
  | .tup xs, .tup ys => D.eqvs xs ys
  | .lst xs, .lst ys => D.eqvs xs ys
  | _, _ => false
def D.eqvs : List D → List D → Bool
  | [], [] => true
  | x :: xs, y :: ys => D.eqv x y && D.eqvs xs ys
  | _, _ => false
end
mutual
/-- how deep -/
def D.dep : D → Nat
  | .tup xs => D.deps xs + 1
  | .lst xs => D.deps xs + 1
  | _ => 0
def D.deps : List D → Nat
  | [] => 0
  | x :: xs => max (D.dep x) (D.deps xs)
end
mutual
/-- no dict, no object within -/
def D.flat : D → Bool
  | .tup xs => D.flats xs
  | .lst xs => D.flats xs
  | .dct _ => false
  | .ins _ _ => false
  | .scr _ => false
  | .dcn _ => false
  | _ => true
def D.flats : List D → Bool
  | [] => true
  | x :: xs => D.flat x && D.flats xs
end

/-- nothing that may be changed stands within k levels -/
def solid : Nat → D → Bool
  | 0, _ => true
  | k + 1, .tup xs => xs.all (solid k)
  | _ + 1, .lst _ => false
  | _ + 1, .dct _ => false
  | _ + 1, .ins _ _ => false
  | _ + 1, .dcn _ => false
  | _ + 1, _ => true

/-- of one's own for j levels: is it fit for w levels? -/
def deep : Nat → Nat → D → Bool
  | 0, w, d => solid w d
  | _ + 1, 0, _ => true
  | j + 1, w + 1, .tup xs => xs.all (deep j w)
  | j + 1, w + 1, .lst xs => xs.all (deep j w)
  | j + 1, w + 1, .dct kvs => kvs.all fun p => deep j w p.2
  | j + 1, w + 1, .ins _ fs => fs.all fun p => deep j w p.2
  | _ + 1, _ + 1, _ => true

/-- a slot: nothing; a value whose first k levels are another's; one whose first k levels are its own -/
inductive Slot where
  | no | bo (k : Nat) (d : D) | ow (k : Nat) (d : D)
abbrev Sl := List Slot
/-- a value at hand: its own for k levels, or borrowed for k levels from the slots src -/
inductive RV where
  | ow (k : Nat) (d : D) | bo (src : List Nat) (k : Nat) (d : D)
def RV.d : RV → D
  | .ow _ d => d
  | .bo _ _ d => d
def RV.k : RV → Nat
  | .ow k _ => k
  | .bo _ k _ => k
def RV.src : RV → List Nat
  | .ow _ _ => []
  | .bo src _ _ => src
/-- an item of it -/
def RV.el : RV → D → RV
  | .ow k _, d => .ow (k - 1) d
  | .bo src k _, d => if k ≤ 1 then .ow 0 d else .bo src (k - 1) d
/-- a field of it: what owns nothing is nobody's -/
def RV.elS : RV → D → RV
  | .ow k _, d => .ow (if 2 ≤ k - 1 ∧ deep 1 (k - 1) d = true then 1 else k - 1) d
  | .bo src k _, d => if k ≤ 1 ∨ solid (k - 1) d = true then .ow 0 d else .bo src (if deep 1 (k - 1) d = true then 1 else k - 1) d
/-- its value, where it is one's own for so many levels -/
def RV.fit (want : Nat) : RV → Option D
  | .ow k d => if want ≤ k ∨ (k = 0 ∧ solid want d = true) ∨ deep k want d = true then some d else none
  | .bo _ _ _ => none
/-- its value, where its items are nobody's -/
def RV.sh (r : RV) : Option D := if r.k ≤ 1 then some r.d else none

inductive Ev (α : Type) where
  | ok (a : α) (s : Sl) | no
@[simp] def Ev.bind {α β : Type} : Ev α → (α → Sl → Ev β) → Ev β
  | .ok a s, f => f a s
  | .no, _ => .no
@[simp] def Ev.of {α : Type} (o : Option α) (s : Sl) : Ev α := match o with
  | some a => .ok a s
  | none => .no
def Slot.rv (i : Nat) : Slot → Option RV
  | .no => none
  | .bo k d => some (if k = 0 then .ow 0 d else .bo [] k d)
  | .ow k d => some (if k = 0 then .ow 0 d else .bo [i] k d)

inductive Bop where | add | sub | mul | mod | fdiv | pow deriving DecidableEq
inductive Cop where | eq | ne | lt | le | gt | ge | inn | nin | isn | nsn deriving DecidableEq
inductive Ty where | int | str | bool | tuple | list | own (c : String) deriving DecidableEq
inductive Bi where | len | all | sum | sorted | list | tuple | dict | str | int | min2 | max2 | min1 | setlen | sortset deriving DecidableEq
inductive Bm where | get | index | split | join | partition | upper | isdigit deriving DecidableEq
inductive Tg where | nm (i : Nat) | tp (ts : List Tg)

inductive E where
  | con (d : D) | gl (x : String) (d : D) | var (i : Nat) | mv (i : Nat) | gv (i : Nat) | io (i : Nat)
  | bin (o : Bop) (a b : E) | neg (a : E) | cmp (o : Cop) (a b : E) | chn (o1 o2 : Cop) (a b c : E)
  | and (a b : E) | or (a b : E) | not (a : E) | ite (c a b : E)
  | tup (k : Nat) (es : List E) | lst (k : Nat) (es : List E) | dct (ks vs : List E)
  | idx (a b : E) | slc (a : E) (lo hi : Option E) | rev (a : E) | fld (c : String) (a : E) (f : String) | fk (c f : String)
  | call (g : Nat) (as : List E) | meth (c m : String) (g : Nat) (as : List E) | mk (k : Nat) (c : String) (g : Nat) (as : List E) | bi (b : Bi) (as : List E) | isi (a : E) (ts : List Ty) | bm (m : Bm) (o : E) (as : List E)
  | lc (k : Nat) (e : E) (t : Tg) (it : E) (c : Option E)
  | rng (as : List E) | zip (a b : E) | enm (a : E) | srt (a : E) | gix (x : String) (zs : List String) (a : E) | dcs (k : Nat) (kvs : List (String × Option D))
  | fst (ps : List (String ⊕ E))

def big : Nat := 16777216
def codes (x : String) : List Nat := x.toList.map Char.toNat

/-! ### operators -/
def mulOk (i j : Int) : Prop := (-(2 ^ 64) < i ∧ i < 2 ^ 64) ∨ (-(2 ^ 64) < j ∧ j < 2 ^ 64)
instance (i j : Int) : Decidable (mulOk i j) := by unfold mulOk; infer_instance
def binD : Bop → D → D → Option (Nat × D)
  | .add, .int i, .int j => some (0, .int (i + j))
  | .add, .str x, .str y => if x.length + y.length ≤ big then some (0, .str (x ++ y)) else none
  | .add, .tup xs, .tup ys => if xs.length + ys.length ≤ big then some (0, .tup (xs ++ ys)) else none
  | .add, .lst xs, .lst ys => if xs.length + ys.length ≤ big then some (1, .lst (xs ++ ys)) else none
  | .sub, .int i, .int j => some (0, .int (i - j))
  | .mul, .int i, .int j => if mulOk i j then some (0, .int (i * j)) else none
  | .mod, .int i, .int j => if 0 < j then some (0, .int (i % j)) else none
  | .fdiv, .int i, .int j => if 0 < j ∧ j < 2 ^ 200 then some (0, .int (i / j)) else none
  | .pow, .int i, .int j => if 0 ≤ j ∧ j ≤ 1000 ∧ i.natAbs < 2 ^ 64 then some (0, .int (i ^ j.toNat)) else none
  | _, _, _ => none
mutual
/-- as the library's data -/
def D.pd : D → PySem.PyData
  | .bl b => .bool b
  | .int i => .int i
  | .str x => .str (PySem.Str.ofString x)
  | .tup xs => .tuple (D.pds xs)
  | .lst xs => .list (D.pds xs)
  | _ => .none
def D.pds : List D → List PySem.PyData
  | [] => []
  | x :: xs => D.pd x :: D.pds xs
end
mutual
/-- of one kind, place by place -/
def D.alk : D → D → Bool
  | .non, .non => true
  | .bl _, .bl _ => true
  | .int _, .int _ => true
  | .str _, .str _ => true
  | .tup xs, .tup ys => D.alks xs ys
  | .lst xs, .lst ys => D.alks xs ys
  | _, _ => false
def D.alks : List D → List D → Bool
  | x :: xs, y :: ys => D.alk x y && D.alks xs ys
  | [], _ => true
  | _ :: _, [] => true
end
mutual
/-- they can be compared, as far as it is asked -/
def D.cmpl : D → D → Bool
  | .tup xs, .tup ys => D.cmpls xs ys
  | x, y => D.alk x y
def D.cmpls : List D → List D → Bool
  | x :: xs, y :: ys => D.cmpl x y && (!D.eqv x y || D.cmpls xs ys)
  | [], _ => true
  | _ :: _, [] => true
end
def eqOk (a b : D) : Prop := a.flat = true ∧ b.flat = true ∧ min a.dep b.dep ≤ 60
instance (a b : D) : Decidable (eqOk a b) := by unfold eqOk; infer_instance
def items : D → Option (List D)
  | .lst xs => some xs
  | .tup xs => some xs
  | _ => none
mutual
/-- a key of any depth -/
def nkOk : Nat → D → Bool
  | 0, .tup _ => false
  | n + 1, .tup xs => nkOks n xs
  | _, .int _ => true
  | _, .str _ => true
  | _, .non => true
  | _, _ => false
def nkOks : Nat → List D → Bool
  | _, [] => true
  | n, x :: xs => nkOk n x && nkOks n xs
end
/-- a tuple that is a key -/
def nkT : D → Bool
  | .tup xs => nkOks 7 xs
  | _ => false
/-- a key more -/
def addN (ks : List D) (k : D) : List D := if (ks.any fun x => D.eqv x k) = true then ks else ks ++ [k]
def keyOk : D → Bool
  | .int _ => true
  | .str _ => true
  | _ => false
def inD (x : D) : D → Option Bool
  | .lst ys => if x.flat = true ∧ D.flats ys = true ∧ min x.dep (D.deps ys) ≤ 60 then some (ys.any fun y => D.eqv y x) else none
  | .tup ys => if x.flat = true ∧ D.flats ys = true ∧ min x.dep (D.deps ys) ≤ 60 then some (ys.any fun y => D.eqv y x) else none
  | .str y => match x with
    | .str z => match z.toList with
      | [c] => some (y.toList.contains c)
      | _ => none
    | _ => none
  | .dct kvs => if keyOk x then some (kvs.any fun p => D.eqv p.1 x) else none
  | _ => none
/-- == of dicts of ints and texts -/
def eqDc : D → D → Option Bool
  | .dct a, .dct b => if (a.all (fun p => keyOk p.1 && keyOk p.2) && b.all fun p => keyOk p.1 && keyOk p.2) = true then
      some (decide (a.length = b.length) && a.all fun p => match (b.find? fun q => D.eqv q.1 p.1).map (·.2) with
        | some v => D.eqv p.2 v
        | none => false) else none
  | _, _ => none
def cmpD : Cop → D → D → Option Bool
  | .eq, a, b => if eqOk a b then some (D.eqv a b) else eqDc a b
  | .ne, a, b => if eqOk a b then some (!D.eqv a b) else (eqDc a b).map (! ·)
  | .lt, .int i, .int j => some (decide (i < j))
  | .le, .int i, .int j => some (decide (i ≤ j))
  | .gt, .int i, .int j => some (decide (j < i))
  | .ge, .int i, .int j => some (decide (j ≤ i))
  | .lt, .str x, .str y => some (decide (codes x < codes y))
  | .ge, .str x, .str y => some (!decide (codes x < codes y))
  | .inn, a, b => inD a b
  | .nin, a, b => (inD a b).map (! ·)
  | .isn, a, .non => some (match a with | .non => true | _ => false)
  | .nsn, a, .non => some (match a with | .non => false | _ => true)
  | _, _, _ => none
/-- the place in a list of n -/
def place (n : Nat) (i : Int) : Option Nat :=
  if 0 ≤ i then (if i < n then some i.toNat else none) else (if 0 ≤ i + n then some (i + n).toNat else none)
def lookD (kvs : List (D × D)) (k : D) : Option D := (kvs.find? fun p => D.eqv p.1 k).map (·.2)
def putD (kvs : List (D × D)) (k v : D) : List (D × D) :=
  if (kvs.any fun p => D.eqv p.1 k) = true then kvs.map (fun p => if D.eqv p.1 k = true then (p.1, v) else p) else kvs ++ [(k, v)]
def idxD : D → D → Option D
  | .lst xs, .int i => (place xs.length i).bind fun j => xs[j]?
  | .tup xs, .int i => (place xs.length i).bind fun j => xs[j]?
  | .str x, .int i => if 0 ≤ i then (x.toList[i.toNat]?).map fun c => .str (String.singleton c) else none
  | .dct kvs, k => if keyOk k then lookD kvs k else none
  | _, _ => none
/-- a bound of a slice -/
def bnd (n : Nat) (i : Int) : Nat := if 0 ≤ i then min i.toNat n else (i + n).toNat
def slcL {α : Type} (xs : List α) (lo hi : Option Int) : List α :=
  let a := (lo.map (bnd xs.length)).getD 0
  let b := (hi.map (bnd xs.length)).getD xs.length
  (xs.take b).drop a
def slcD : D → Option Int → Option Int → Option (Nat × D)
  | .lst xs, lo, hi => some (1, .lst (slcL xs lo hi))
  | .tup xs, lo, hi => some (0, .tup (slcL xs lo hi))
  | _, _, _ => none
def revD : D → Option (Nat × D)
  | .lst xs => some (1, .lst xs.reverse)
  | .tup xs => some (0, .tup xs.reverse)
  | _ => none
def isTy : Ty → D → Bool
  | .int, .int _ => true
  | .int, .bl _ => true
  | .bool, .bl _ => true
  | .str, .str _ => true
  | .tuple, .tup _ => true
  | .list, .lst _ => true
  | .own c, .ins c' _ => c == c'
  | _, _ => false
def boolsD : List D → Option (List Bool)
  | [] => some []
  | .bl b :: r => (boolsD r).map (b :: ·)
  | _ => none
def intsD : List D → Option (List Int)
  | [] => some []
  | .int b :: r => (intsD r).map (b :: ·)
  | _ => none
def strsD : List D → Option (List String)
  | [] => some []
  | .str b :: r => (strsD r).map (b :: ·)
  | _ => none
def pairsD : List D → Option (List (D × D))
  | [] => some []
  | .tup [k, v] :: r => if keyOk k then (pairsD r).map ((k, v) :: ·) else none
  | _ => none
/-- sorted, of items that compare -/
def sortD (xs : List D) : List D := xs.mergeSort (PySem.W.dataLe false D.pd)
def isTup1 : D → Bool
  | .tup (_ :: _) => true
  | _ => false
def noTup : D → Bool
  | .tup _ => false
  | .non => false
  | _ => true
def keysOf (kvs : List (D × D)) : List D := kvs.map (·.1)
def sortOk (xs : List D) : Bool := xs.all (fun x => xs.all fun y => D.alk x y || D.cmpl x y) && xs.all (fun x => x.flat && decide (x.dep ≤ 60)) && (xs.all isTup1 || xs.all noTup)
def keySort (xs : List D) : Bool := ((intsD xs).isSome || (strsD xs).isSome) && decide (xs.length < 64)
def keySet (xs : List D) : Bool := ((intsD xs).isSome || (strsD xs).isSome) && decide (xs.length < 4000)
/-- what is unlike, of ints or texts -/
def setD (xs : List D) : List D := match intsD xs with
  | some ns => ns.eraseDups.map .int
  | none => match strsD xs with
    | some zs => zs.eraseDups.map .str
    | none => []
/-- numbered -/
def enumD (xs : List D) : List D := xs.zipIdx.map fun p => .tup [.int p.2, p.1]
def bi1 : Bi → D → Option (Nat × D)
  | .sortset, .lst xs => if keySet xs then some (1, .lst (sortD (setD xs))) else none
  | .len, .lst xs => some (0, .int xs.length)
  | .len, .tup xs => some (0, .int xs.length)
  | .len, .str x => some (0, .int x.length)
  | .len, .dct x => some (0, .int x.length)
  | .all, .lst xs => (boolsD xs).map fun bs => (0, .bl (bs.all id))
  | .sum, .lst xs => (intsD xs).map fun ns => (0, .int ns.sum)
  | .sorted, .lst xs => if sortOk xs then some (1, .lst (sortD xs)) else none
  | .sorted, .dct kvs => if keySort (keysOf kvs) then some (1, .lst (sortD (keysOf kvs))) else none
  | .list, .lst xs => some (1, .lst xs)
  | .list, .tup xs => some (1, .lst xs)
  | .list, .scr xs => some (1, .lst xs)
  | .list, .dct kvs => some (1, .lst (keysOf kvs))
  | .list, .dcn ks => some (1, .lst ks)
  | .tuple, .lst xs => some (0, .tup xs)
  | .tuple, .tup xs => some (0, .tup xs)
  | .int, .int i => some (0, .int i)
  | .int, .bl b => some (0, .int (if b = true then 1 else 0))
  | .dict, .lst xs => (pairsD xs).map fun ps => (1, .dct (ps.foldl (fun acc p => putD acc p.1 p.2) []))
  | .dict, .tup xs => (pairsD xs).map fun ps => (1, .dct (ps.foldl (fun acc p => putD acc p.1 p.2) []))
  | _, _ => none
def bi2 : Bi → D → D → Option (Nat × D)
  | .max2, .int i, .int j => some (0, .int (if j > i then j else i))
  | .min2, .int i, .int j => some (0, .int (if j < i then j else i))
  | _, _, _ => none
def biD (b : Bi) (ds : List D) : Option (Nat × D) := match ds with
  | [x] => bi1 b x
  | [x, y] => bi2 b x y
  | _ => none
def asciiUp (c : Char) : Char := if 'a' ≤ c ∧ c ≤ 'z' then Char.ofNat (c.toNat - 32) else c
def joinS (x : String) : List String → String
  | [] => ""
  | [p] => p
  | p :: q :: r => p ++ x ++ joinS x (q :: r)
/-- the place of the first that is equal -/
def idxOf (xs : List D) (v : D) : Option (Nat × D) := if v.flat = true ∧ D.flats xs = true ∧ v.dep ≤ 60 ∧ D.deps xs ≤ 60 then (xs.findIdx? fun x => D.eqv x v).map fun (j : Nat) => (0, D.int j) else none
def bmD : Bm → D → List D → Option (Nat × D)
  | .get, .dct kvs, [k, v] => if keyOk k = true ∧ solid 1 v = true then some (0, (lookD kvs k).getD v) else none
  | .index, .lst xs, [v] => idxOf xs v
  | .upper, .str x, [] => if x.toList.all (fun c => c.toNat < 128) = true ∧ x.length ≤ 1000000 then some (0, .str (String.ofList (x.toList.map asciiUp))) else none
  | .join, .str x, [.lst ys] => (strsD ys).bind fun zs => if (zs.map String.length).sum + zs.length * x.length ≤ big ∧ (joinS x zs).length ≤ big then some (0, .str (joinS x zs)) else none
  | _, _, _ => none
/-- what is walked -/
def itemsOf : D → Option (List D)
  | .lst xs => some xs
  | .tup xs => some xs
  | .str x => some (x.toList.map fun c => .str (String.singleton c))
  | _ => none
def rngD : List D → Option (List D)
  | [.int j] => if j ≤ big ∧ -(2 ^ 60) ≤ j then some ((List.range j.toNat).map fun (k : Nat) => .int k) else none
  | [.int i, .int j] => if j - i ≤ big ∧ -(2 ^ 60) ≤ i ∧ i ≤ 2 ^ 60 ∧ -(2 ^ 60) ≤ j ∧ j ≤ 2 ^ 60 then some ((List.range (j - i).toNat).map fun (k : Nat) => .int (i + k)) else none
  | _ => none

/-! ### targets -/
mutual
def Tg.put : Tg → D → Sl → Option Sl
  | .nm i, d, s => if i < s.length then some (s.set i (.bo 0 d)) else none
  | .tp ts, .tup ds, s => Tg.puts ts ds s
  | .tp ts, .lst ds, s => Tg.puts ts ds s
  | .tp _, _, _ => none
def Tg.puts : List Tg → List D → Sl → Option Sl
  | [], [], s => some s
  | t :: ts, d :: ds, s => (Tg.put t d s).bind (Tg.puts ts ds)
  | _, _, _ => none
end
mutual
def Tg.slots : Tg → List Nat
  | .nm i => [i]
  | .tp ts => Tg.slotss ts
def Tg.slotss : List Tg → List Nat
  | [] => []
  | t :: ts => Tg.slots t ++ Tg.slotss ts
end
/-- the slots of s0 put back -/
def restore (is : List Nat) (s0 s : Sl) : Sl := match is with
  | [] => s
  | i :: r => (restore r s0 s).set i (s0[i]?.getD .no)

/-- the slots of is, forgotten -/
def wipeS (is : List Nat) (s : Sl) : Sl := match is with
  | [] => s
  | i :: r => (wipeS r s).set i .no
/-- none of these is owned -/
def noOw (is : List Nat) (s : Sl) : Bool := is.all fun i => match s[i]? with
  | some (.ow _ _) => false
  | none => false
  | _ => true
/-- how often a while may turn -/
def wn : Nat := 1000000

/-! ### what a code changes -/
mutual
def E.muts : E → List Nat
  | .mv i => [i]
  | .gv i => [i]
  | .io i => [i]
  | .con _ | .gl _ _ | .var _ | .fk _ _ | .dcs _ _ => []
  | .bin _ a b | .cmp _ a b | .and a b | .or a b | .idx a b | .zip a b => E.muts a ++ E.muts b
  | .neg a | .not a | .rev a | .fld _ a _ | .isi a _ | .enm a | .srt a | .gix _ _ a => E.muts a
  | .chn _ _ a b c | .ite a b c => E.muts a ++ E.muts b ++ E.muts c
  | .tup _ es | .lst _ es | .call _ es | .meth _ _ _ es | .mk _ _ _ es | .bi _ es | .rng es => E.mutss es
  | .bm _ o es => E.muts o ++ E.mutss es
  | .dct ks vs => E.mutss ks ++ E.mutss vs
  | .slc a lo hi => E.muts a ++ E.mutso lo ++ E.mutso hi
  | .lc _ e t it c => E.muts e ++ E.muts it ++ E.mutso c
  | .fst ps => E.mutsp ps
def E.mutss : List E → List Nat
  | [] => []
  | e :: es => E.muts e ++ E.mutss es
def E.mutso : Option E → List Nat
  | none => []
  | some e => E.muts e
def E.mutsp : List (String ⊕ E) → List Nat
  | [] => []
  | .inl _ :: ps => E.mutsp ps
  | .inr e :: ps => E.muts e ++ E.mutsp ps
end

/-! ### expressions -/
/-- an argument of a call: changed by it; or read -/
inductive Arg where
  | io (k : Nat) (d : D) | pv (k : Nat) (d : D)
inductive Rs where
  | ok (k : Nat) (d : D) (outs : List D) | no
/-- an argument as it is reckoned: a slot that is handed in, a value -/
inductive AV where
  | io (i : Nat) | rv (r : RV)
def clash (src ms : List Nat) : Bool := src.any fun i => ms.contains i
def AV.rvs : List AV → Option (List RV)
  | [] => some []
  | .rv r :: as => (AV.rvs as).map (r :: ·)
  | .io _ :: _ => none
def AV.ios : List AV → List Nat
  | [] => []
  | .rv _ :: as => AV.ios as
  | .io i :: as => i :: AV.ios as
def AV.srcs : List AV → List Nat
  | [] => []
  | .rv r :: as => r.src ++ AV.srcs as
  | .io _ :: as => AV.srcs as
/-- the arguments of a call, as the slots stand -/
def AV.args (s : Sl) : List AV → Option (List Arg)
  | [] => some []
  | .rv r :: as => (AV.args s as).map (.pv r.k r.d :: ·)
  | .io i :: as => match s[i]? with
    | some (.ow k d) => (AV.args s as).map (.io k d :: ·)
    | _ => none
/-- what a call has made of its slots -/
def setOuts (s : Sl) : List Nat → List D → Option Sl
  | [], [] => some s
  | i :: is, d :: ds => match s[i]? with
    | some (.ow k _) => setOuts (s.set i (.ow k d)) is ds
    | _ => none
  | _, _ => none
def fits (k : Nat) : List RV → Option (List D)
  | [] => some []
  | r :: rs => match r.fit k, fits k rs with
    | some d, some ds => some (d :: ds)
    | _, _ => none
/-- the comprehension's loop -/
def lcGo (f : D → Sl → Ev (Option D)) : List D → Sl → Ev (List D)
  | [], s => .ok [] s
  | x :: xs, s => (f x s).bind fun o s1 => (lcGo f xs s1).bind fun ys s2 => .ok (match o with | some y => y :: ys | none => ys) s2
def bCond {α : Type} (r : RV) (s : Sl) (f : Bool → Ev α) : Ev α := match r.d with
  | .bl b => f b
  | _ => .no
def optInt : RV → Option Int
  | r => match r.d with
    | .int i => some i
    | _ => none
/-- what may be walked: its items are nobody's -/
def RV.walk (r : RV) (ms : List Nat) (ds : Option (List D)) : Option (List D) :=
  if clash r.src ms = true then none else match r with
    | .ow _ _ => ds
    | .bo src k _ => if k ≤ 1 then ds else none
def Ev.r0 (o : Option D) (s : Sl) : Ev RV := match o with
  | some d => .ok (.ow 0 d) s
  | none => .no
def Ev.rk (o : Option (Nat × D)) (s : Sl) : Ev RV := match o with
  | some (k, d) => .ok (.ow k d) s
  | none => .no
def shs : List RV → Option (List D)
  | [] => some []
  | r :: rs => match r.sh, shs rs with
    | some d, some ds => some (d :: ds)
    | _, _ => none
/-- a written dict of texts: constants, empty lists -/
def dcsOk (k : Nat) (kvs : List (String × Option D)) : Bool := decide (kvs.length ≤ 15) && !kvs.isEmpty && (kvs.map (·.1)).Nodup && kvs.all fun p => decide (p.1.length ≤ 1000) && match p.2 with
  | some .non => true
  | some (.int _) => true
  | some (.bl _) => true
  | none => decide (2 ≤ k)
  | _ => false
/-- a field -/
def fldD (c f : String) : D → Option D
  | .ins c' fs => if c' = c then fs.lookup f else none
  | _ => none
/-- an instance of the class, without such a field -/
def isC (c m : String) : D → Bool
  | .ins c' fs => decide (c' = c) && (fs.lookup m).isNone
  | _ => false
/-- the first argument is such -/
def selfAv (c m : String) (s : Sl) : List AV → Bool
  | .io i :: _ => match s[i]? with
    | some (.ow _ d) => isC c m d
    | _ => false
  | .rv r :: _ => isC c m r.d
  | [] => false
/-- a field stored -/
def setFld : List (String × D) → String → D → List (String × D)
  | [], f, d => [(f, d)]
  | (g, x) :: r, f, d => if g = f then (g, d) :: r else (g, x) :: setFld r f d
/-- which built-ins hand on items -/
def Bi.shares : Bi → Bool
  | .len | .all | .sum | .str | .int | .min2 | .max2 | .setlen => false
  | _ => true
def mkDct (ks vs : List D) : Option (List (D × D)) := match ks, vs with
  | [], [] => some []
  | k :: ks, v :: vs => if keyOk k then (mkDct ks vs).map ((k, v) :: ·) else none
  | _, _ => none

section
variable (cf : Nat → List Arg → Rs) (io : List Nat)
mutual
def evE : E → Sl → Ev RV
  | .con d, s => .ok (.ow 0 d) s
  | .gl _ d, s => .ok (.ow 0 d) s
  | .var i, s => Ev.of ((s[i]?.getD .no).rv i) s
  | .mv i, s => match s[i]? with
    | some (.ow k d) => if io.contains i then .no else .ok (.ow k d) (s.set i .no)
    | _ => .no
  | .gv i, s => match s[i]? with
    | some (.ow _ d) => if io.contains i then .no else .ok (.ow 0 d) (s.set i (.bo 0 d))
    | _ => .no
  | .io _, _ => .no
  | .bin o a b, s => (evE a s).bind fun r s1 => if clash r.src (E.muts b) then .no else (evE b s1).bind fun p s2 =>
      match r.sh, p.sh with
      | some x, some y => Ev.rk (binD o x y) s2
      | _, _ => .no
  | .neg a, s => (evE a s).bind fun r s1 => match r.d with
      | .int i => .ok (.ow 0 (.int (-i))) s1
      | _ => .no
  | .cmp o a b, s => (evE a s).bind fun r s1 => if clash r.src (E.muts b) then .no else (evE b s1).bind fun p s2 => Ev.r0 ((cmpD o r.d p.d).map .bl) s2
  | .chn o1 o2 a b c, s => (evE a s).bind fun r s1 => if clash r.src (E.muts b) then .no else (evE b s1).bind fun p s2 =>
      match cmpD o1 r.d p.d with
      | some true => if clash p.src (E.muts c) then .no else (evE c s2).bind fun t s3 => Ev.r0 ((cmpD o2 p.d t.d).map .bl) s3
      | some false => .ok (.ow 0 (.bl false)) s2
      | none => .no
  | .and a b, s => (evE a s).bind fun r s1 => bCond r s1 fun c => if c then (evE b s1).bind fun p s2 => bCond p s2 fun c => .ok (.ow 0 (.bl c)) s2 else .ok (.ow 0 (.bl false)) s1
  | .or a b, s => (evE a s).bind fun r s1 => bCond r s1 fun c => if c then .ok (.ow 0 (.bl true)) s1 else (evE b s1).bind fun p s2 => bCond p s2 fun c => .ok (.ow 0 (.bl c)) s2
  | .not a, s => (evE a s).bind fun r s1 => bCond r s1 fun c => .ok (.ow 0 (.bl (!c))) s1
  | .ite c a b, s => (evE c s).bind fun r s1 => bCond r s1 fun c => if c then evE a s1 else evE b s1
  | .tup k es, s => (evAs es s).bind fun as s1 => match (AV.rvs as).bind (fits (k - 1)) with
      | some ds => .ok (.ow k (.tup ds)) s1
      | none => .no
  | .lst k es, s => (evAs es s).bind fun as s1 => match (AV.rvs as).bind (fits (k - 1)) with
      | some ds => if 1 ≤ k then .ok (.ow k (.lst ds)) s1 else .no
      | none => .no
  | .dct ks vs, s => (evAs ks s).bind fun as s1 => (evAs vs s1).bind fun bs s2 => match (AV.rvs as).bind (fits 0), (AV.rvs bs).bind (fits 0) with
      | some xs, some ys => match mkDct xs ys with
        | some kvs => .ok (.ow 1 (.dct (kvs.foldl (fun acc p => putD acc p.1 p.2) []))) s2
        | none => .no
      | _, _ => .no
  | .idx a b, s => (evE a s).bind fun r s1 => if clash r.src (E.muts b) then .no else (evE b s1).bind fun p s2 => match idxD r.d p.d with
      | some d => .ok (r.el d) s2
      | none => .no
  | .slc a lo hi, s => (evE a s).bind fun r s1 => if clash r.src (E.mutso lo ++ E.mutso hi) then .no else (evO lo s1).bind fun l s2 => (evO hi s2).bind fun h s3 => match r.sh with
      | some d => Ev.rk (slcD d l h) s3
      | none => .no
  | .rev a, s => (evE a s).bind fun r s1 => match r.sh with
      | some d => Ev.rk (revD d) s1
      | none => .no
  | .fld c a f, s => (evE a s).bind fun r s1 => match fldD c f r.d with
      | some d => .ok (r.elS d) s1
      | none => .no
  | .fk _ _, _ => .no
  | .call g es, s => (evAs es s).bind fun as s1 => match AV.args s1 as with
      | some vs => if (AV.ios as).Nodup ∧ clash (AV.srcs as) (AV.ios as) = false then match cf g vs with
          | .ok k d outs => match setOuts s1 (AV.ios as) outs with
            | some s2 => .ok (.ow k d) s2
            | none => .no
          | .no => .no
        else .no
      | none => .no
  | .meth c m g es, s => (evAs es s).bind fun as s1 => if selfAv c m s as = true then match AV.args s1 as with
      | some vs => if (AV.ios as).Nodup ∧ clash (AV.srcs as) (AV.ios as) = false then match cf g vs with
          | .ok k d outs => match setOuts s1 (AV.ios as) outs with
            | some s2 => .ok (.ow k d) s2
            | none => .no
          | .no => .no
        else .no
      | none => .no
    else .no
  | .mk k c g es, s => (evAs es s).bind fun as s1 => match AV.rvs as with
      | some rs => if 1 ≤ k ∧ clash (AV.srcs as) [s1.length] = false then match cf g (.io k (.ins c []) :: rs.map fun r => .pv r.k r.d) with
          | .ok _ .non [d] => .ok (.ow k d) s1
          | _ => .no
        else .no
      | none => .no
  | .bi b es, s => (evAs es s).bind fun as s1 => match AV.rvs as with
      | some rs => match (if b.shares then shs rs else some (rs.map RV.d)) with
        | some ds => Ev.rk (biD b ds) s1
        | none => .no
      | none => .no
  | .isi a ts, s => (evE a s).bind fun r s1 => match r.d with
      | .scr _ => .no
      | .ins _ _ => .no
      | .dcn _ => .no
      | d => .ok (.ow 0 (.bl (ts.any fun t => isTy t d))) s1
  | .bm m o es, s => (evE o s).bind fun r s1 => if clash r.src (E.mutss es) then .no else (evAs es s1).bind fun as s2 => match r.sh, (AV.rvs as).bind shs with
      | some d, some ds => Ev.rk (bmD m d ds) s2
      | _, _ => .no
  | .lc k e t it c, s => (evE it s).bind fun r0 s0 => (Ev.of (r0.walk (E.muts e ++ E.mutso c) (itemsOf r0.d)) s0).bind fun ds s1 =>
      if 1 ≤ k ∧ noOw t.slots s1 = true ∧ ds.length ≤ big then (lcGo (fun x s2 => match Tg.put t x s2 with
        | some s3 => (evC c s3).bind fun b s4 => if b then (evE e s4).bind fun r s5 => match r.fit (k - 1) with
            | some d => if noOw t.slots s5 = true then .ok (some d) (wipeS t.slots s5) else .no
            | none => .no
          else if noOw t.slots s4 = true then .ok none (wipeS t.slots s4) else .no
        | none => .no) ds (wipeS t.slots s1)).bind fun ys s6 => .ok (.ow k (.lst ys)) (restore t.slots s1 s6) else .no
  | .rng es, s => (evAs es s).bind fun as s1 => match (AV.rvs as).bind shs with
      | some ds => match rngD ds with
        | some xs => .ok (.ow 1 (.lst xs)) s1
        | none => .no
      | none => .no
  | .zip _ _, _ => .no
  | .enm a, s => (evE a s).bind fun r s1 => match r with
      | .ow _ (.lst xs) => .ok (.ow 1 (.lst (enumD xs))) s1
      | _ => .no
  | .srt a, s => (evE a s).bind fun r s1 => match r with
      | .ow (k + 1) (.lst xs) => if sortOk xs then .ok (.ow (k + 1) (.lst (sortD xs))) s1 else .no
      | _ => .no
  | .gix _ zs a, s => (evE a s).bind fun r s1 => match r.d with
      | .str z => match zs.findIdx? fun y => y == z with
        | some j => .ok (.ow 0 (.int j)) s1
        | none => .no
      | _ => .no
  | .dcs k kvs, s => if 1 ≤ k ∧ dcsOk k kvs = true then .ok (.ow k (.dct (kvs.map fun p => (.str p.1, (p.2).getD (.lst []))))) s else .no
  | .fst _, _ => .no
termination_by structural e => e
def evAs : List E → Sl → Ev (List AV)
  | [], s => .ok [] s
  | .io i :: es, s => match s[i]? with
    | some (.ow _ _) => (evAs es s).bind fun as s1 => .ok (.io i :: as) s1
    | _ => .no
  | e :: es, s => (evE e s).bind fun r s1 => if clash r.src (E.mutss es) then .no else (evAs es s1).bind fun as s2 => .ok (.rv r :: as) s2
termination_by structural e => e
def evO : Option E → Sl → Ev (Option Int)
  | none, s => .ok none s
  | some e, s => (evE e s).bind fun r s1 => match r.d with
    | .int i => .ok (some i) s1
    | _ => .no
termination_by structural e => e
def evC : Option E → Sl → Ev Bool
  | none, s => .ok true s
  | some e, s => (evE e s).bind fun r s1 => bCond r s1 fun b => .ok b s1
termination_by structural e => e
end

/-! ### statements -/
inductive S where
  | asg (i k : Nat) (e : E) | unp (t : Tg) (e : E)
  | put (i : Nat) (path : List E) (key e : E) | app (i : Nat) (path : List E) (e : E) | ext (i : Nat) (path : List E) (e : E)
  | extm (i : Nat) (path : List E) (e : E) | fset (i : Nat) (c f : String) (e : E) | ins (i : Nat) (path : List E) (a b : E) | pop (i : Nat) (path : List E) (a : Option E)
  | ex (e : E) | ite (c : E) (a b : List S) | for_ (t : Tg) (it : E) (b : List S) | fom (i j : Nat) (b : List S) | whl (c : E) (b : List S)
  | ret (e : E) | retN | pass | brk | ct | never
inductive Out where
  | nx (s : Sl) | ret (k : Nat) (d : D) (s : Sl) | brk (s : Sl) | ct (s : Sl) | no

/-- a change at a path within -/
def updD (k : Nat) (d : D) (path : List D) (f : Nat → D → Option D) : Option D := match path with
  | [] => match k with
    | 0 => none
    | k + 1 => f k d
  | key :: path => match k with
    | 0 => none
    | k + 1 => match d, key with
      | .lst xs, .int i => (place xs.length i).bind fun j => (xs[j]?).bind fun x => (updD k x path f).map fun y => .lst (xs.set j y)
      | .tup xs, .int i => (place xs.length i).bind fun j => (xs[j]?).bind fun x => (updD k x path f).map fun y => .tup (xs.set j y)
      | .dct kvs, .str z => (kvs.findIdx? fun p => D.eqv p.1 (.str z)).bind fun j => (kvs[j]?).bind fun p => (updD k p.2 path f).map fun y => .dct (kvs.set j (p.1, y))
      | .ins c' fs, .ins c [(g, _)] => (fldD c g (.ins c' fs)).bind fun x => (updD k x path f).map fun y => .ins c' (setFld fs g y)
      | _, _ => none
def putF (key : D) (r : RV) (k : Nat) : D → Option D
  | .lst xs => match key with
    | .int i => (place xs.length i).bind fun j => (r.fit k).map fun d => .lst (xs.set j d)
    | _ => none
  | .dct kvs => if keyOk key = true ∧ kvs.length < big ∧ (k = 0 ∨ solid k r.d = true) then (r.fit k).map fun d => .dct (putD kvs key d) else if kvs.isEmpty = true ∧ nkT key = true then match r.d with
      | .bl true => some (.dcn [key])
      | _ => none
    else none
  | .dcn ks => if nkT key = true ∧ ks.length < big then match r.d with
      | .bl true => some (.dcn (addN ks key))
      | _ => none
    else none
  | _ => none
def fsetF (c g : String) (r : RV) (k : Nat) : D → Option D
  | .ins c' fs => if c' = c ∧ fs.length < 1000 then (r.fit k).map fun d => .ins c' (setFld fs g d) else none
  | _ => none
def appF (r : RV) (k : Nat) : D → Option D
  | .lst xs => if xs.length < big then (r.fit k).map fun d => .lst (xs ++ [d]) else none
  | _ => none
def extF (ys : List D) (k : Nat) : D → Option D
  | .lst xs => if xs.length + ys.length ≤ big ∧ k = 0 then some (.lst (xs ++ ys)) else none
  | _ => none
/-- another's items moved in -/
def extM (r : RV) (k : Nat) : D → Option D
  | .lst xs => match r.fit (k + 1) with
    | some (.lst ys) => if xs.length + ys.length ≤ big then some (.lst (xs ++ ys)) else none
    | _ => none
  | _ => none
def insF (i : Int) (r : RV) (k : Nat) : D → Option D
  | .lst xs => if xs.length < big ∧ 0 ≤ i ∧ i < 2 ^ 60 then (r.fit k).map fun d => .lst (xs.take i.toNat ++ d :: xs.drop i.toNat) else none
  | _ => none
def popF (i : Int) : Nat → D → Option D
  | _, .lst xs => if -(2 ^ 60) < i ∧ i < 2 ^ 60 then (place xs.length i).map fun j => .lst (xs.eraseIdx j) else none
  | _, _ => none
def chg (s : Sl) (i : Nat) (path : List D) (f : Nat → D → Option D) : Out := match s[i]? with
  | some (.ow k d) => match updD k d path f with
    | some d' => .nx (s.set i (.ow k d'))
    | none => .no
  | _ => .no
/-- keys of a path: they change nothing -/
def evPath : List E → Sl → Option (List D)
  | [], _ => some []
  | .fk c f :: es, s => (evPath es s).map (.ins c [(f, .non)] :: ·)
  | e :: es, s => if E.muts e = [] then match evE cf io e s with
      | .ok r _ => if keyOk r.d = true then (evPath es s).map (r.d :: ·) else none
      | .no => none
    else none
def Out.bind : Out → (Sl → Out) → Out
  | .nx s, f => f s
  | o, _ => o
def forGo (f : D → Sl → Out) : List D → Sl → Out
  | [], s => .nx s
  | x :: xs, s => match f x s with
    | .nx s1 => forGo f xs s1
    | .ct s1 => forGo f xs s1
    | .brk s1 => .nx s1
    | .ret k d s1 => .ret k d s1
    | .no => .no
def whGo (c : Sl → Ev Bool) (f : Sl → Out) : Nat → Sl → Out
  | 0, _ => .no
  | n + 1, s => match c s with
    | .ok true s0 => match f s0 with
      | .nx s1 => whGo c f n s1
      | .ct s1 => whGo c f n s1
      | .brk s1 => .nx s1
      | .ret k d s1 => .ret k d s1
      | .no => .no
    | .ok false s0 => .nx s0
    | .no => .no
/-- a walk through a list whose items are changed in place: each is taken out, and put back -/
def fmGo (i j : Nat) (f : Sl → Out) : Nat → Nat → Sl → Out
  | 0, _, s => .nx s
  | c + 1, m, s => match s[j]? with
    | some (.ow (k + 2) (.lst xs)) => match xs[m]? with
      | some d => match f ((s.set j .no).set i (.ow (k + 1) d)) with
        | .nx s1 => match s1[i]?, s1[j]? with
          | some (.ow k' d'), some .no => if k' = k + 1 then fmGo i j f c (m + 1) ((s1.set i .no).set j (.ow (k + 2) (.lst (xs.set m d')))) else .no
          | _, _ => .no
        | .ct s1 => match s1[i]?, s1[j]? with
          | some (.ow k' d'), some .no => if k' = k + 1 then fmGo i j f c (m + 1) ((s1.set i .no).set j (.ow (k + 2) (.lst (xs.set m d')))) else .no
          | _, _ => .no
        | _ => .no
      | none => .no
    | _ => .no
mutual
def S.muts : S → List Nat
  | .asg i _ e => i :: E.muts e
  | .unp t e => t.slots ++ E.muts e
  | .put i p a e => i :: (E.muts a ++ E.muts e)
  | .app i _ e | .ext i _ e | .extm i _ e | .fset i _ _ e => i :: E.muts e
  | .ins i _ a b => i :: (E.muts a ++ E.muts b)
  | .pop i _ a => i :: E.mutso a
  | .ex e => E.muts e
  | .ite c a b => E.muts c ++ S.mutss a ++ S.mutss b
  | .for_ t it b => t.slots ++ E.muts it ++ S.mutss b
  | .fom i j b => i :: j :: S.mutss b
  | .whl c b => E.muts c ++ S.mutss b
  | .ret e => E.muts e
  | .retN | .pass | .brk | .ct | .never => []
def S.mutss : List S → List Nat
  | [] => []
  | x :: xs => S.muts x ++ S.mutss xs
end
def evRet (r : RV) (s : Sl) : Out := match r with
  | .ow k d => .ret k d s
  | .bo _ _ _ => .no
def okTg (io : List Nat) (t : Tg) : Bool := !clash t.slots io
mutual
def evS (io : List Nat) (n : Nat) : S → Sl → Out
  | .asg i k e, s => match evE cf io e s with
    | .ok r s1 => if io.contains i ∨ s1.length ≤ i then .no else match r with
      | .ow _ _ => match r.fit k with
        | some d => .nx (s1.set i (if k = 0 then .bo 0 d else .ow k d))
        | none => .no
      | .bo [] j d => if k = 0 then .nx (s1.set i (.bo j d)) else .no
      | _ => .no
    | .no => .no
  | .unp t e, s => match evE cf io e s with
    | .ok r s1 => if okTg io t then match r.fit 0 with
        | some d => match Tg.put t d s1 with
          | some s2 => .nx s2
          | none => .no
        | none => .no
      else .no
    | .no => .no
  | .put i p a e, s => match evE cf io e s with
    | .ok r s1 => match evPath cf io p s1 with
      | some ks => if clash r.src (E.muts a) = true ∨ (E.muts a).contains i = true then .no else match evE cf io a s1 with
        | .ok q s2 => chg s2 i ks (putF q.d r)
        | .no => .no
      | none => .no
    | .no => .no
  | .app i p e, s => match evPath cf io p s with
    | some ks => if (E.muts e).contains i then .no else match evE cf io e s with
      | .ok r s1 => chg s1 i ks (appF r)
      | .no => .no
    | none => .no
  | .extm i p e, s => match evPath cf io p s with
    | some ks => if (E.muts e).contains i then .no else match evE cf io e s with
      | .ok r s1 => chg s1 i ks (extM r)
      | .no => .no
    | none => .no
  | .fset i c f e, s => match evE cf io e s with
    | .ok r s1 => chg s1 i [] (fsetF c f r)
    | .no => .no
  | .ext i p e, s => match evPath cf io p s with
    | some ks => if (E.muts e).contains i then .no else match evE cf io e s with
      | .ok r s1 => match r.d with
        | .lst ys => match (r.walk [i] (some ys)) with
          | some ys => chg s1 i ks (extF ys)
          | none => .no
        | _ => .no
      | .no => .no
    | none => .no
  | .ins i p a b, s => match evPath cf io p s with
    | some ks => if (E.muts a ++ E.muts b).contains i then .no else match evAs cf io [a, b] s with
      | .ok [.rv q, .rv r] s2 => match q.d with
        | .int j => chg s2 i ks (insF j r)
        | _ => .no
      | _ => .no
    | none => .no
  | .pop i p a, s => match evPath cf io p s with
    | some ks => match a with
      | none => chg s i ks (popF (-1))
      | some a => if (E.muts a).contains i then .no else match evE cf io a s with
        | .ok q s1 => match q.d with
          | .int j => chg s1 i ks (popF j)
          | _ => .no
        | .no => .no
    | none => .no
  | .ex e, s => match evE cf io e s with
    | .ok _ s1 => .nx s1
    | .no => .no
  | .ite c a b, s => match evE cf io c s with
    | .ok r s1 => match r.d with
      | .bl true => evSs io n a s1
      | .bl false => evSs io n b s1
      | _ => .no
    | .no => .no
  | .for_ t it b, s => match evE cf io it s with
    | .ok r s1 => if okTg io t then match r.walk (t.slots ++ S.mutss b) (itemsOf r.d) with
        | some ds => forGo (fun x s2 => match Tg.put t x s2 with
          | some s3 => evSs io n b s3
          | none => .no) ds s1
        | none => .no
      else .no
    | .no => .no
  | .fom i j b, s => if i = j ∨ io.contains i = true ∨ io.contains j = true ∨ s.length ≤ i then .no else match s[j]? with
    | some (.ow (_ + 2) (.lst xs)) => fmGo i j (evSs (i :: j :: io) n b) xs.length 0 (s.set i .no)
    | _ => .no
  | .whl c b, s => whGo (fun s => match evE cf io c s with
      | .ok r s1 => match r.d with
        | .bl b => .ok b s1
        | _ => .no
      | .no => .no) (evSs io n b) n s
  | .ret e, s => match evE cf io e s with
    | .ok r s1 => evRet r s1
    | .no => .no
  | .retN, s => .ret 0 .non s
  | .pass, s => .nx s
  | .brk, s => .brk s
  | .ct, s => .ct s
  | .never, _ => .no
termination_by structural x => x
def evSs (io : List Nat) (n : Nat) : List S → Sl → Out
  | [], s => .nx s
  | x :: xs, s => (evS io n x s).bind (evSs io n xs)
termination_by structural x => x
end
end

/-- a def: how many parameters, slots; what is left out; the body -/
structure Def where
  np : Nat
  ns : Nat
  df : List D
  body : List S
def Arg.slot : Arg → Slot
  | .io k d => .ow k d
  | .pv k d => .bo k d
def ioIdx : List Arg → Nat → List Nat
  | [], _ => []
  | .io _ _ :: as, i => i :: ioIdx as (i + 1)
  | .pv _ _ :: as, i => ioIdx as (i + 1)
def outsOf (s : Sl) : List Arg → Nat → Option (List D)
  | [], _ => some []
  | .pv _ _ :: as, i => outsOf s as (i + 1)
  | .io k _ :: as, i => match s[i]? with
    | some (.ow k' d) => if k' = k then (outsOf s as (i + 1)).map (d :: ·) else none
    | _ => none
def ending (as : List Arg) : Out → Rs
  | .nx s => match outsOf s as 0 with
    | some ds => .ok 0 .non ds
    | none => .no
  | .ret k d s => match outsOf s as 0 with
    | some ds => .ok k d ds
    | none => .no
  | _ => .no
/-- a def's end, by all its arguments -/
def rsOf (cf : Nat → List Arg → Rs) (f : Def) (as : List Arg) : Rs :=
  if as.length = f.np ∧ f.np ≤ f.ns then ending as (evSs cf (ioIdx as 0) wn f.body (as.map Arg.slot ++ List.replicate (f.ns - f.np) .no)) else .no
/-- what is left out, when m are told -/
def Def.rest (f : Def) (m : Nat) : List D := f.df.drop (f.df.length - (f.np - m))
def evDef (tb : List Def) : Nat → Nat → List Arg → Rs
  | 0, _, _ => .no
  | n + 1, g, as => match tb[g]? with
    | none => .no
    | some f => rsOf (evDef tb n) f (as ++ (f.rest as.length).map (Arg.pv 0))
def isFk : E → Option (String × String)
  | .fk c f => some (c, f)
  | _ => none
def isIo : E → Option Nat
  | .io i => some i
  | _ => none
end Ti
end

section
/-! tuples that are known to have no dict of their own: made, joined, cut, reversed, handed to dict -/
namespace Ti
open PySem PySem.Spec PyProof.Rows L2

/-- a tuple without a dict of its own -/
def SqU (K : PySem.W.Frag) (H : Hp) (a : Addr) (xs : List V) : Prop :=
  (∃ o : Obj, o.dict = none ∧ H a = some (.frz o (.tup xs))) ∨
    ∃ (o : Obj) (its : Array Value) (n : Nat), K.lookup a = some o ∧ o.cls = .type "tuple" ∧ o.dict = none ∧ o.data = .seq its n ∧ its.size ≤ sizeLine ∧ Vals xs its.toList
theorem SqU.sq {K : PySem.W.Frag} {H : Hp} {a : Addr} {xs : List V} (h : SqU K H a xs) : SqT K H a xs := by
  rcases h with ⟨o, _, h⟩ | ⟨o, its, n, h1, h2, h3, h4, h5, h6⟩
  · exact .inl (.inr ⟨o, h⟩)
  · exact .inr ⟨o, its, n, h1, h2, h4, h5, h6⟩
section
variable {X : Cx} {pins : List (Addr × Obj)} {σ : L2.St} {H : Hp} {s : Shared}
theorem SqU.plain (I : L2.Inv X pins σ H s) {a : Addr} {xs : List V} (h : SqU X.K H a xs) : ∃ its : List Value, Vals xs its ∧ PlainSeq "tuple" s.heap a its.toArray ∧ xs.length ≤ sizeLine := by
  rcases h with ⟨o, hd, h⟩ | ⟨o, its, n, h1, h2, h3, h4, h5, h6⟩
  · obtain ⟨e, z, its, r, ob, e2, c, n, dt⟩ := I.hok a _ h
    rw [e] at e2; cases e2
    exact ⟨its, r, ⟨o, n, e, c, hd, dt⟩, z⟩
  · refine ⟨its.toList, h6, ⟨o, n, I.kIn a o h1, h2, h3, by simpa using h4⟩, ?_⟩
    have := h6.length
    simp only [Array.length_toList] at this
    omega
/-- a new tuple is laid -/
theorem tup_laid {h' : Heap} {tk : Nat} {its : List Value} {xs : List V} (I : L2.Inv X pins σ H { s with heap := h', toks := tk }) (r : Vals xs its) (hz : xs.length ≤ sizeLine) :
    L2.Inv X pins σ (upd H h'.objs.size (.frz { cls := .type "tuple", data := .seq its.toArray } (.tup xs))) { s with heap := h'.push { cls := .type "tuple", data := .seq its.toArray }, toks := tk } :=
  I.laid (t' := tk) (fun b o e => Heap.get?_push_of_some _ e) (Nat.le_refl _) (show ObjOk X.prog X.w _ _ _ (.frz _ (.tup xs)) from ⟨Heap.get?_push_size _ rfl, hz, its, r, IsTup.new _ _⟩)
end
variable {X : Cx}
/-- a new tuple -/
def NewT (H : Hp) (xs : List V) (Q : VK) : Prop := ∀ (p : Addr) (o : Obj), H p = none → o.dict = none → Q (.ref p) (upd H p (.frz o (.tup xs)))
def tTupU (t : TA) : TE := fun σ H Q => t σ H fun xs H1 => xs.length ≤ sizeLine ∧ NewT H1 xs Q
theorem pe_tupU {es : List Expr} {t : TA} {x1 : Nat} {pos : Pos} (h : PA X es t) : PE X (.Tuple es x1 pos) (tTupU t) := by
  refine ⟨fun pins s σ H Q I hq => ?_⟩
  refine wpAny_Tuple_spliced (thn (h.run pos pins s σ H _ I hq) fun us s1 ⟨xs, H1, I1, r, z, q⟩ => ⟨by rw [← r.length]; exact z, ?_⟩)
  exact ⟨.ref s1.heap.objs.size, _, tup_laid (tk := s1.toks) I1 r z, rfl, q _ _ (I1.hok.fresh (Nat.le_refl _)) rfl⟩
/-- t + u -/
def rCatU (K : PySem.W.Frag) : R2 := fun x y H Q => ∃ a b xs ys, x = .ref a ∧ y = .ref b ∧ SqU K H a xs ∧ SqU K H b ys ∧ xs.length + ys.length ≤ sizeLine ∧
  (xs = [] → Q (.ref b) H) ∧ (ys = [] → Q (.ref a) H) ∧ NewT H (xs ++ ys) Q
theorem op_catU : OpR X (binaryOp .Add) (rCatU X.K) := by
  intro pins s σ H x y v u Q I rx ry h
  obtain ⟨a, b, xs, ys, rfl, rfl, ha, hb, hz, q0, q1, q2⟩ := h
  by_cases hx : xs = []
  · exact op_catA pins s σ H _ _ v u Q I rx ry ⟨a, b, xs, ys, rfl, rfl, ha.sq, hb.sq, hz, fun _ => q0 hx, fun h => absurd hx h, fun h => absurd hx h⟩
  · cases rx
    cases ry
    obtain ⟨its, r1, p1, _⟩ := I.tuple ha.sq
    obtain ⟨its2, r2, p2, _⟩ := I.tuple hb.sq
    refine HT.cat_tup p1 p2 (fun z => hx (r1.nil_iff.mp z)) (fun z => ⟨.ref a, H, I, rfl, q1 (r2.nil_iff.mp z)⟩) (fun z => ?_) (by rw [← r1.length, ← r2.length]; exact hz)
    exact ⟨.ref s.heap.objs.size, _, tup_laid (tk := s.toks) I (r1.append r2) (by rw [List.length_append]; exact hz), rfl, q2 _ _ (I.hok.fresh (Nat.le_refl _)) rfl⟩
/-- tuple(list), tuple(tuple) -/
theorem call_tupleU : CallR X (.type "tuple") (fun xs H Q => ∃ p ys, xs = [.ref p] ∧ ((SqL X.K H p ys ∧ NewT H ys Q) ∨ (SqT X.K H p ys ∧ Q (.ref p) H))) := by
  intro pins s σ H xs us Q I r h
  obtain ⟨p, ys, rfl, h⟩ := h
  obtain ⟨u, rfl, rx⟩ := vals1 r
  cases rx
  rcases h with ⟨hq, q⟩ | ⟨hq, q⟩
  · obtain ⟨its, r', pl, hz⟩ := I.list hq
    have hlen := r'.length
    refine call_tuple_list pl.isList (fun h' kp => ?_) (by simp only [List.size_toArray] <;> omega)
    have I1 : L2.Inv X pins σ H { s with heap := h' } := I.kept (t' := s.toks) kp
    exact ⟨.ref h'.objs.size, _, tup_laid (tk := s.toks) I1 r' hz, rfl, q _ _ (I1.hok.fresh (Nat.le_refl _)) rfl⟩
  · obtain ⟨its, r', pl, hz⟩ := I.tuple hq
    exact call_tuple_same pl ⟨.ref p, H, I, rfl, q⟩
/-- t[lo:hi] -/
def rSlU (K : PySem.W.Frag) : V → Option Int → Option Int → Hp → VK → Prop := fun x lo hi H Q => ∃ a xs, x = .ref a ∧ SqU K H a xs ∧
  (HT.sIx xs.length 0 lo = 0 ∧ HT.sIx xs.length xs.length hi = xs.length → Q (.ref a) H) ∧ NewT H (cutV xs lo hi) Q
theorem sl_tupU : SlR X (rSlU X.K) := by
  intro pins s σ H x v vl vu lo hi sl Q I rx hs pl pu h
  obtain ⟨a, xs, rfl, hx, q1, q2⟩ := h
  by_cases hw : HT.sIx xs.length 0 lo = 0 ∧ HT.sIx xs.length xs.length hi = xs.length
  · exact sl_tupA pins s σ H _ v vl vu lo hi sl Q I rx hs pl pu ⟨a, xs, rfl, hx.sq, q1, fun h => absurd hw h⟩
  · cases rx
    obtain ⟨its, r, ht, hz⟩ := I.tuple hx.sq
    have hlen : its.toArray.size = xs.length := by rw [List.size_toArray]; exact r.length.symm
    refine ⟨"tuple", _, PyProof.Rows.slot_tuple_getitem.lookup, ht.typeIs, ?_⟩
    refine HT.getItem_tuple_cut ht hs pl pu (by rw [hlen]; exact hw) ?_ (by rw [hlen]; exact hz)
    rw [hlen]
    exact ⟨.ref s.heap.objs.size, _, tup_laid (tk := s.toks) I ((r.drop (HT.sIx xs.length 0 lo)).take (HT.sIx xs.length xs.length hi - HT.sIx xs.length 0 lo)) (Nat.le_trans (cutV_length xs lo hi) hz), rfl, q2 _ _ (I.hok.fresh (Nat.le_refl _)) rfl⟩
/-- dict(pairs), the pairs in a tuple -/
theorem call_dictU (hcalm : X.calm = true) : CallR X (.type "dict") (fun xs H Q => ∃ (a : Addr) (ps : List Addr) (kvs : List (L2.Key × V)), xs = [.ref a] ∧ SqU X.K H a (ps.map V.ref) ∧ Paired (fun p kv => SqU X.K H p [kV kv.1, kv.2]) ps kvs ∧
    ∀ p, H p = none → Q (.ref p) (upd H p (.dK (mergeK [] kvs)))) := by
  intro pins s σ H xs us Q I r q
  obtain ⟨a, ps, kvs, ex, hq, hp, q⟩ := q
  subst ex
  obtain ⟨u, eu, rx⟩ := vals1 r
  subst eu
  cases rx
  obtain ⟨its, rv, pl, hz⟩ := SqU.plain I hq
  have ei := refs_at rv
  subst ei
  rw [List.length_map] at hz
  have pairs : ∀ {ps : List Addr} {kvs : List (L2.Key × V)}, Paired (fun p kv => SqU X.K H p [kV kv.1, kv.2]) ps kvs →
      ∃ prs : List (L2.Key × Value × Value), prs.length = ps.length ∧ KV kvs (prs.map fun p => (p.1, p.2.2)) ∧ ∀ (j : Nat) (q : L2.Key × Value × Value), prs[j]? = some q → ∃ b, ps[j]? = some b ∧ IsTup s.heap b #[q.2.1, q.2.2] ∧ keyIs q.1 q.2.1 = true := by
    intro ps kvs h
    induction h with
    | nil => exact ⟨[], rfl, .nil, fun j q e => by simp at e⟩
    | @cons p kv ps kvs h t ih =>
      obtain ⟨prs, hl, r, g⟩ := ih
      obtain ⟨its, rv, ht, _⟩ := I.tuple h.sq
      obtain ⟨u, y, ei, ru, ry⟩ := vals2 rv
      subst ei
      refine ⟨(kv.1, u, y) :: prs, by simp [hl], .cons ⟨rfl, ry⟩ r, fun j q e => ?_⟩
      cases j with
      | zero => simp at e; subst e; exact ⟨p, rfl, ht, kV_is (P := X.prog) (w := X.w) ru⟩
      | succ j => simpa using g j q (by simpa using e)
  obtain ⟨prs, hl, rel, hpr⟩ := pairs hp
  refine PySem.call_dict_pairs (knd := mixKind X.prog X.w) (kvs := prs.map fun p => (p.1, p.2.2)) (PairArg.tuple a (ps.map Value.ref).toArray (fun j => ps.getD j 0) (prs.map fun p => (p.2.1, p.2.2))) (I.ok.hd hcalm) ⟨pl, ?_, fun j k v e => ?_⟩ ⟨by simp, fun i key v e => ?_⟩ (by simp [hl]; exact hz) fun h' tk hd' k => ?_
  · simp [hl]
  · rw [List.getElem?_map, Option.map_eq_some_iff] at e
    obtain ⟨q', e, eq⟩ := e
    obtain ⟨b, e1, e2, _⟩ := hpr j q' e
    injection eq with eq1 eq2
    subst eq1; subst eq2
    have e3 : ps.getD j 0 = b := by simp [List.getD, e1]
    refine ⟨by simp [e1], ?_⟩
    show PairAt s.heap (ps.getD j 0) _ _
    rw [e3]
    exact .inl e2
  · have e' : (prs.map fun p => (p.2.1, p.2.2))[i]? = some (key, v) := e
    rw [List.getElem?_map, Option.map_eq_some_iff] at e'
    obtain ⟨q', e1, eq⟩ := e'
    injection eq with eq1 eq2
    subst eq1; subst eq2
    obtain ⟨b, _, _, e3⟩ := hpr i q' e1
    exact ⟨q'.1, by rw [List.getElem?_map, e1]; rfl, e3⟩
  · have hm : (s.heap.objs.size == sysModules) = false := beq_eq_false_iff_ne.mpr (Nat.ne_of_gt I.big)
    have hlen : (mergeK [] kvs).length ≤ sizeLine := by
      refine Nat.le_trans (length_mergeK kvs []) ?_
      rw [List.length_nil, Nat.zero_add, rel.length, List.length_map, hl]
      exact hz
    exact ⟨.ref s.heap.objs.size, upd H s.heap.objs.size (.dK (mergeK [] kvs)), I.laid (t' := tk) (fun b o e => k b o (by simp) e) (Nat.le_refl _) (show ObjOk X.prog X.w _ _ _ (.dK (mergeK [] kvs)) from ⟨hlen, hm, merged [] (prs.map fun p => (p.1, p.2.2)), KV.merge rel .nil, hd'⟩), rfl, q _ (I.hok.fresh (Nat.le_refl _))⟩

/-! ### t[::-1] -/
section
variable {prog : Program} {w : World} {A : Around} {E : Value → Shared → Prop} {s : Shared}
theorem sliceApplied_rev {sl : Addr} {vl vu : Value} {t : Tok} {n : Nat} {Q : Int × Int × Nat → Shared → Prop} (hs : s.heap.IsSliceOf sl vl vu (.int (-1) t)) (pl : IsPart vl none) (pu : IsPart vu none)
    (h : Q ((n : Int) - 1, -1, n) s) : wpAny (model prog w) A (Builtin.Slice.sliceApplied (.ref sl) (pure (n : Int))) Q E s := by
  obtain ⟨os, hos, hcs, hds⟩ := id hs
  unfold Builtin.Slice.sliceApplied Builtin.Slice.sliceFields
  refine wpAny_bind (wpAny_bind (wpAny_field hos hds (x := vl) rfl (wpAny_bind (wpAny_field hos hds (x := vu) rfl (wpAny_bind (wpAny_field hos hds (x := .int (-1) t) rfl (wpAny_pure ?_)))))))
  refine wpAny_bind (HT.slicePart_ (.int (-1) t) ?_)
  show wpAny _ _ (if ((-1 : Int) == 0) = true then _ else _) _ _ s
  rw [if_neg (by decide)]
  refine wpAny_bind (HT.slicePart_ pl (wpAny_bind (HT.slicePart_ pu (wpAny_bind (wpAny_pure ?_)))))
  show wpAny _ _ (match Builtin.Slice.sliceAdjust none none (-1) (n : Int) with | (lo, hi) => pure (lo, (-1 : Int), Builtin.Slice.slicePlaces lo hi (-1))) _ _ s
  have e1 : Builtin.Slice.sliceAdjust none none (-1) (n : Int) = ((n : Int) - 1, -1) := by
    unfold Builtin.Slice.sliceAdjust
    simp
  have e2 : Builtin.Slice.slicePlaces ((n : Int) - 1) (-1) (-1) = n := by
    unfold Builtin.Slice.slicePlaces
    simp
    try omega
  rw [e1]
  show wpAny _ _ (pure ((n : Int) - 1, (-1 : Int), Builtin.Slice.slicePlaces ((n : Int) - 1) (-1) (-1))) _ _ s
  rw [e2]
  exact wpAny_pure h
theorem rev_pick (xs : Array Value) : ((List.range xs.size).filterMap fun (m : Nat) => xs[(((xs.size : Int) - 1) + (m : Int) * -1).toNat]?) = xs.toList.reverse := by
  have e1 : (List.range xs.size).filterMap (fun (m : Nat) => xs[(((xs.size : Int) - 1) + (m : Int) * -1).toNat]?) = (List.range xs.size).filterMap (fun m => xs.toList.reverse[m]?) := by
    have cong : ∀ (f g : Nat → Option Value) (l : List Nat), (∀ m ∈ l, f m = g m) → l.filterMap f = l.filterMap g := by
      intro f g l
      induction l with
      | nil => intro _; rfl
      | cons x l ih =>
        intro h
        rw [List.filterMap_cons, List.filterMap_cons, h x List.mem_cons_self, ih fun m hm => h m (List.mem_cons_of_mem _ hm)]
    refine cong _ _ _ fun m hm => ?_
    have hm' : m < xs.toList.length := by simpa using hm
    rw [List.getElem?_reverse hm']
    have : (((xs.size : Int) - 1) + (m : Int) * -1).toNat = xs.toList.length - 1 - m := by
      rw [Array.length_toList] at hm' ⊢
      omega
    rw [this]
    simp
  rw [e1]
  have go : ∀ (l : List Value), (List.range l.length).filterMap (fun m => l[m]?) = l := by
    intro l
    induction l with
    | nil => rfl
    | cons x l ih =>
      rw [List.length_cons, List.range_succ_eq_map, List.filterMap_cons]
      simp only [List.getElem?_cons_zero, List.filterMap_map]
      congr 1
  have := go xs.toList.reverse
  rw [List.length_reverse, Array.length_toList] at this
  exact this
theorem getItem_tuple_rev {t sl : Addr} {items : Array Value} {vl vu : Value} {tk : Tok} {Q : Value → Shared → Prop} (ht : IsTup s.heap t items) (hs : s.heap.IsSliceOf sl vl vu (.int (-1) tk)) (pl : IsPart vl none) (pu : IsPart vu none)
    (h : Q (.ref s.heap.objs.size) { s with heap := s.heap.push { cls := .type "tuple", data := .seq items.toList.reverse.toArray } })
    (hsz : items.size ≤ sizeLine) : wpAny (model prog w) A (getItem (.ref t) (.ref sl)) Q E s := by
  have htake : sizeOk (.seq items.toList.reverse.toArray) := by
    show items.toList.reverse.toArray.size ≤ sizeLine
    rw [List.size_toArray, List.length_reverse, Array.length_toList]
    exact hsz
  obtain ⟨os, hos, hcs, hds⟩ := id hs
  have hTs : s.TypeIs (.ref sl) "slice" := ⟨os, hos, hcs⟩
  unfold getItem
  try with_reducible refine wpAny_holding ?_
  first | refine wpAny_bind (wpAny_pure ?_) | skip
  refine wpAny_bind (wpAny_sequenceKey ht.typeIs (by decide) ?_)
  refine wpAny_bind (wpAny_callSpecial?_slot (name := Str.ofString "__getitem__") ht.typeIs PyProof.Rows.slot_tuple_getitem
    (wpAny_call_entry PyProof.Rows.slot_tuple_getitem ht.typeIs entry_tuple_getitem ?_ (args_tuple_getitem _ _)))
  show wpAny _ _ (Builtin.Tuple.tupleItemsOf (.ref t) >>= _) _ _ s
  refine wpAny_bind (PyProof.Rows.tupleItemsOf_ ht ?_)
  refine wpAny_bind (wpAny_typeOf hTs ?_)
  rw [if_pos (by decide)]
  refine wpAny_bind (sliceApplied_rev hs pl pu ?_)
  have hno : ¬ ((((items.size : Int) - 1) == 0 && (-1 : Int) == 1 && items.size == items.size) = true) := by
    intro q
    rw [Bool.and_eq_true, Bool.and_eq_true] at q
    exact absurd (eq_of_beq q.1.2) (by decide)
  show wpAny _ _ (if (((items.size : Int) - 1) == 0 && (-1 : Int) == 1 && items.size == items.size) = true then _ else _) _ _ s
  rw [if_neg hno, rev_pick]
  first
    | exact wpAny_bind (m := Builtin.Tuple.tupleExact _) (wpAny_newObj_type (wpAny_pure ⟨_, rfl, wpAny_pure h⟩) htake)
    | exact wpAny_bind (m := Builtin.Tuple.tupleExact _) (wpAny_newObj_type (wpAny_bind (wpAny_pure (wpAny_pure ⟨_, rfl, wpAny_pure h⟩))) htake)
    | exact wpAny_bind (wpAny_bind (m := Builtin.Tuple.tupleExact _) (wpAny_newObj_type (wpAny_pure (wpAny_pure ⟨_, rfl, wpAny_pure h⟩)) htake))
    | exact wpAny_bind (wpAny_bind (m := Builtin.Tuple.tupleExact _) (wpAny_newObj_type (wpAny_pure ⟨_, rfl, wpAny_pure h⟩) htake))
end
/-- xs[::-1] of a list or of a tuple -/
def tRevA (K : PySem.W.Frag) (te : TE) : TE := fun σ H Q => te σ H fun x H1 => ∃ a xs, x = .ref a ∧ ((SqL K H1 a xs ∧ ∀ p, H1 p = none → Q (.ref p) (upd H1 p (.lst xs.reverse))) ∨ (SqU K H1 a xs ∧ NewT H1 xs.reverse Q))
theorem pe_revA {e : Expr} {te : TE} {k : Nat} {p1 p2 p3 pos : Pos} (he : PE X e te) : PE X (.Subscript e (.Slice none none (some (.UnaryOp .USub (.Constant (.int 1) k p1) p2)) p3) pos) (tRevA X.K te) := by
  refine ⟨fun pins s σ H Q I h => ?_⟩
  refine Subscript_ (thn (he.run pins s σ H _ I h) fun v s1 ⟨x, H1, I1, r1, q1⟩ => ?_)
  obtain ⟨a, xs, ex, hx⟩ := q1
  subst ex
  cases r1
  have hst : PO X (some (.UnaryOp .USub (.Constant (.int 1) k p1) p2)) (tPart (tUn (rU fun i => .int (-i)) (tC (.int 1)))) := po_some (pe_un un_neg pe_int)
  refine wpAny_Slice (thn (po_none.run pins s1 σ H1 (fun o H2 => o = none ∧ H2 = H1) I1 ⟨rfl, rfl⟩) fun vl s2 ⟨l, H2, I2, pl, el, e2⟩ => ?_)
  subst el e2
  refine thn (po_none.run pins s2 σ H2 (fun o H3 => o = none ∧ H3 = H2) I2 ⟨rfl, rfl⟩) fun vu s3 ⟨u, H3, I3, pu, eu, e3⟩ => ?_
  subst eu e3
  refine thn (hst.run pins s3 σ H3 (fun o H4 => o = some (-1) ∧ H4 = H3) I3 ⟨1, rfl, -1, rfl, rfl, rfl⟩) fun vs s4 ⟨o, H4, I4, ps, eo, e4⟩ => ?_
  subst eo e4
  have I5 : L2.Inv X pins σ H4 { s4 with heap := s4.heap.push { cls := .type "slice", data := .fields #[vl, vu, vs] } } := I4.kept (t' := s4.toks) fun b ob q => Heap.get?_push_of_some _ q
  rcases hx with ⟨hx, q⟩ | ⟨hx, q⟩
  · obtain ⟨its, r, ht, hz⟩ := I5.list hx
    have hlen := r.length
    show wpAny (model X.prog X.w) X.A (subscriptTail e (.Slice none none (some (.UnaryOp .USub (.Constant (.int 1) k p1) p2)) p3) (.ref a) (.ref s4.heap.objs.size)) (EP X pins σ Q) X.xe { s4 with heap := s4.heap.push { cls := .type "slice", data := .fields #[vl, vu, vs] } }
    refine tail_any (ops := [.ref a, .ref s4.heap.objs.size]) ht.isList.typeIs (PySem.slot_list_getitem.lookup) ?_ (by with_unfolding_all rfl)
    refine wpAny_getItem_list_slice ht.isList (Heap.IsSliceOf.new _ vl vu vs) pl pu ps (by decide) ?_ (by rw [List.size_toArray]; omega)
    rw [PySem.W.krv_pick]
    refine ⟨.ref _, _, I5.laid (t' := s4.toks) (o := .lst xs.reverse) (fun b ob q => Heap.get?_push_of_some _ q) (Nat.le_refl _) ?_, rfl, q _ (I5.hok.fresh (Nat.le_refl _))⟩
    exact ⟨by rw [List.length_reverse]; exact hz, _, 0, r.reverse, Heap.get?_push_size _ rfl⟩
  · obtain ⟨its, r, ht, hz⟩ := I5.tuple hx.sq
    have hlen := r.length
    show wpAny (model X.prog X.w) X.A (subscriptTail e (.Slice none none (some (.UnaryOp .USub (.Constant (.int 1) k p1) p2)) p3) (.ref a) (.ref s4.heap.objs.size)) (EP X pins σ Q) X.xe { s4 with heap := s4.heap.push { cls := .type "slice", data := .fields #[vl, vu, vs] } }
    cases ps with
    | int i tk =>
      refine tail_any (ops := [.ref a, .ref s4.heap.objs.size]) ht.typeIs (PyProof.Rows.slot_tuple_getitem.lookup) ?_ (by with_unfolding_all rfl)
      refine getItem_tuple_rev ht (Heap.IsSliceOf.new _ vl vu _) pl pu ?_ (by rw [List.size_toArray]; omega)
      exact ⟨.ref _, _, tup_laid (tk := s4.toks) I5 r.reverse (by rw [List.length_reverse]; exact hz), rfl, q _ _ (I5.hok.fresh (Nat.le_refl _)) rfl⟩
end Ti
end

section
/-! how plain data stands in the heap -/
namespace Ti
open PySem PySem.Spec PyProof.Rows L2

/-- the world that the walk is in: only a dict of nested keys asks for it -/
class PWc where
  w : Option World
variable [PWc]
mutual
/-- as a key of any depth -/
def nkD : D → Option NestedKey
  | .non => some .none
  | .int i => some (.num i)
  | .str x => some (.text (Str.ofString x))
  | .tup xs => (nkDs xs).map .tup
  | _ => none
def nkDs : List D → Option (List NestedKey)
  | [] => some []
  | x :: xs => (nkD x).bind fun k => (nkDs xs).map (k :: ·)
end
/-- a dict of nested keys, all of them True: its keys and where they stand -/
def DNo (a : Addr) (xs : List (NestedKey × Addr)) : HO := .ext fun h => ∃ w, PWc.w = some w ∧ (a == sysModules) = false ∧ xs.length ≤ sizeLine ∧ (xs.map (·.1)).Nodup ∧
  ∃ (o : Obj) (es : Array DictEntry) (ep : _), h.get? a = some o ∧ o.ExactDict ∧ o.data = .dict es ep ∧ es.toList = xs.map fun x => ⟨x.1.hash w, .ref x.2, .bool true⟩
/-- a key -/
def keyOf : D → Option L2.Key
  | .int i => some (.inl i)
  | .str x => some (.inr (Str.ofString x))
  | _ => none

/-- a key that fits -/
def keyFit : D → Prop
  | .str x => x.length ≤ big
  | _ => True
def KeyL (kvs : List (D × D)) (es : List (L2.Key × V)) : Prop := kvs.map (fun p => keyOf p.1) = es.map (fun p => some p.1) ∧ ∀ p ∈ kvs, keyFit p.1
/-- the script: never written -/
def SqS (K : PySem.W.Frag) (H : Hp) (a : Addr) (xs : List V) : Prop :=
  (∃ o, H a = some (.frz o (.lst xs))) ∨
    ∃ (o : Obj) (its : Array Value) (n : Nat), K.lookup a = some o ∧ o.cls = .type "list" ∧ o.dict = none ∧ o.data = .seq its n ∧ its.size ≤ sizeLine ∧ Vals xs its.toList
theorem SqS.sq {K : PySem.W.Frag} {H : Hp} {a : Addr} {xs : List V} (h : SqS K H a xs) : SqL K H a xs := h.imp .inr id
theorem SqS.of {K : PySem.W.Frag} {H : Hp} {a : Addr} {xs : List V} (h : SqL K H a xs) (o : Only H) : SqS K H a xs := by
  rcases h with (h | h) | h
  · rcases o a with e | ⟨ob, ys, e⟩
    · rw [e] at h; cases h
    · rw [e] at h; cases h
  · exact .inl h
  · exact .inr h
/-- the class of this name stands there -/
def ClsAt (K : PySem.W.Frag) (c : String) (C : Addr) : Prop := PySem.W.nsIn K mainGlobals (Str.ofString c) = some (some (.ref C))
/-- the same fields -/
def FldL (fs : List (String × D)) (es : List (Str × V)) : Prop := fs.map (fun p => Str.ofString p.1) = es.map (·.1)
section
variable (K : PySem.W.Frag) (H : Hp) (Dz : Addr → Prop)
mutual
/-- d stands at v: the lists, dicts of its first k levels at F, those behind at places of Dz -/
inductive Rp : Nat → D → V → List Addr → Prop
  | non {k : Nat} : Rp k .non .non []
  | bl {k : Nat} (b : Bool) : Rp k (.bl b) (.bl b) []
  | int {k : Nat} (i : Int) : Rp k (.int i) (.int i) []
  | str {k : Nat} (x : String) (hx : x.length ≤ big) : Rp k (.str x) (.str (Str.ofString x)) []
  | tup {k : Nat} {a : Addr} {vs : List V} {ds : List D} {F : List Addr} : SqU K H a vs → Rps (k - 1) ds vs F → Rp k (.tup ds) (.ref a) F
  | lz {a : Addr} {vs : List V} {ds : List D} {F : List Addr} : Dz a → H a = some (.lst vs) → Rps 0 ds vs F → Rp 0 (.lst ds) (.ref a) F
  | scr {k : Nat} {a : Addr} {vs : List V} {ds : List D} {F : List Addr} : SqS K H a vs → Rps 0 ds vs F → Rp k (.scr ds) (.ref a) F
  | lo {k : Nat} {a : Addr} {vs : List V} {ds : List D} {F : List Addr} : H a = some (.lst vs) → Rps k ds vs F → Rp (k + 1) (.lst ds) (.ref a) (a :: F)
  | dz {a : Addr} {es : List (L2.Key × V)} {kvs : List (D × D)} {F : List Addr} : Dz a → H a = some (.dK es) → KeyL kvs es → Rps 0 (kvs.map (·.2)) (es.map (·.2)) F → Rp 0 (.dct kvs) (.ref a) F
  | do_ {k : Nat} {a : Addr} {es : List (L2.Key × V)} {kvs : List (D × D)} {F : List Addr} : H a = some (.dK es) → KeyL kvs es → Rps k (kvs.map (·.2)) (es.map (·.2)) F → Rp (k + 1) (.dct kvs) (.ref a) (a :: F)
  | nz {a : Addr} {xs : List (NestedKey × Addr)} {ks : List D} {F : List Addr} : Dz a → H a = some (DNo a xs) → nkDs ks = some (xs.map (·.1)) → (∀ k ∈ ks, nkT k = true) → Rps 0 ks (xs.map fun x => .ref x.2) F → Rp 0 (.dcn ks) (.ref a) F
  | no_ {k : Nat} {a : Addr} {xs : List (NestedKey × Addr)} {ks : List D} {F : List Addr} : H a = some (DNo a xs) → nkDs ks = some (xs.map (·.1)) → (∀ k ∈ ks, nkT k = true) → Rps 0 ks (xs.map fun x => .ref x.2) F → Rp (k + 1) (.dcn ks) (.ref a) (a :: F)
  | iz {a C dx : Addr} {c : String} {es : List (Str × V)} {fs : List (String × D)} {F : List Addr} : Dz a → H a = some (.ins C dx es) → ClsAt K c C → FldL fs es → Rps 0 (fs.map (·.2)) (es.map (·.2)) F → Rp 0 (.ins c fs) (.ref a) F
  | io_ {k : Nat} {a C dx : Addr} {c : String} {es : List (Str × V)} {fs : List (String × D)} {F : List Addr} : H a = some (.ins C dx es) → ClsAt K c C → FldL fs es → Rps k (fs.map (·.2)) (es.map (·.2)) F → Rp (k + 1) (.ins c fs) (.ref a) (a :: F)
inductive Rps : Nat → List D → List V → List Addr → Prop
  | nil {k : Nat} : Rps k [] [] []
  | cons {k : Nat} {d : D} {ds : List D} {v : V} {vs : List V} {F G : List Addr} : Rp k d v F → Rps k ds vs G → Rps k (d :: ds) (v :: vs) (F ++ G)
end
end

section
variable {K : PySem.W.Frag} {H H' : Hp} {Dz Dz' : Addr → Prop}
theorem SqU.stay {a : Addr} {vs : List V} (h : SqU K H a vs) (nm : ∀ a o, H a = some o → ¬ Mut (some o) → H' a = some o) : SqU K H' a vs := by
  rcases h with ⟨o, d, h⟩ | h
  · exact .inl ⟨o, d, nm _ _ h fun z => z⟩
  · exact .inr h
theorem SqS.stay {a : Addr} {vs : List V} (h : SqS K H a vs) (nm : ∀ a o, H a = some o → ¬ Mut (some o) → H' a = some o) : SqS K H' a vs := by
  rcases h with ⟨o, h⟩ | h
  · exact .inl ⟨o, nm _ _ h fun z => z⟩
  · exact .inr h
mutual
theorem Rp.stay (dz : ∀ a, Dz a → Dz' a) (nm : ∀ a o, H a = some o → ¬ Mut (some o) → H' a = some o) (kz : ∀ a o, H a = some o → Dz a → H' a = some o) :
    ∀ {k : Nat} {d : D} {v : V} {F : List Addr}, Rp K H Dz k d v F → (∀ a o, H a = some o → a ∈ F → H' a = some o) → Rp K H' Dz' k d v F
  | _, _, _, _, .non, _ => .non
  | _, _, _, _, .bl b, _ => .bl b
  | _, _, _, _, .int i, _ => .int i
  | _, _, _, _, .str x hx, _ => .str x hx
  | _, _, _, _, .tup h r, kf => .tup (SqU.stay h nm) (Rps.stay dz nm kz r kf)
  | _, _, _, _, .lz z h r, kf => .lz (dz _ z) (kz _ _ h z) (Rps.stay dz nm kz r kf)
  | _, _, _, _, .scr h r, kf => .scr (SqS.stay h nm) (Rps.stay dz nm kz r kf)
  | _, _, _, _, .lo h r, kf => .lo (kf _ _ h List.mem_cons_self) (Rps.stay dz nm kz r fun a o e m => kf a o e (List.mem_cons_of_mem _ m))
  | _, _, _, _, .dz z h e r, kf => .dz (dz _ z) (kz _ _ h z) e (Rps.stay dz nm kz r kf)
  | _, _, _, _, .do_ h e r, kf => .do_ (kf _ _ h List.mem_cons_self) e (Rps.stay dz nm kz r fun a o e m => kf a o e (List.mem_cons_of_mem _ m))
  | _, _, _, _, .nz z h e l r, kf => .nz (dz _ z) (kz _ _ h z) e l (Rps.stay dz nm kz r kf)
  | _, _, _, _, .no_ h e l r, kf => .no_ (kf _ _ h List.mem_cons_self) e l (Rps.stay dz nm kz r fun a o e m => kf a o e (List.mem_cons_of_mem _ m))
  | _, _, _, _, .iz z h e l r, kf => .iz (dz _ z) (kz _ _ h z) e l (Rps.stay dz nm kz r kf)
  | _, _, _, _, .io_ h e l r, kf => .io_ (kf _ _ h List.mem_cons_self) e l (Rps.stay dz nm kz r fun a o e m => kf a o e (List.mem_cons_of_mem _ m))
theorem Rps.stay (dz : ∀ a, Dz a → Dz' a) (nm : ∀ a o, H a = some o → ¬ Mut (some o) → H' a = some o) (kz : ∀ a o, H a = some o → Dz a → H' a = some o) :
    ∀ {k : Nat} {d : List D} {v : List V} {F : List Addr}, Rps K H Dz k d v F → (∀ a o, H a = some o → a ∈ F → H' a = some o) → Rps K H' Dz' k d v F
  | _, _, _, _, .nil, _ => .nil
  | _, _, _, _, .cons h r, kf => .cons (Rp.stay dz nm kz h fun a o e m => kf a o e (List.mem_append_left _ m)) (Rps.stay dz nm kz r fun a o e m => kf a o e (List.mem_append_right _ m))
end
mutual
theorem Rp.nilk : ∀ {k : Nat} {d : D} {v : V} {F : List Addr}, Rp K H Dz k d v F → k = 0 → F = []
  | _, _, _, _, .non, _ => rfl
  | _, _, _, _, .bl b, _ => rfl
  | _, _, _, _, .int i, _ => rfl
  | _, _, _, _, .str x hx, _ => rfl
  | _, _, _, _, .tup h r, e => Rps.nilk r (by omega)
  | _, _, _, _, .lz z h r, _ => Rps.nilk r rfl
  | _, _, _, _, .scr h r, _ => Rps.nilk r rfl
  | _, _, _, _, .lo h r, e => by omega
  | _, _, _, _, .dz z h e r, _ => Rps.nilk r rfl
  | _, _, _, _, .do_ h e r, e' => by omega
  | _, _, _, _, .nz z h e l r, _ => Rps.nilk r rfl
  | _, _, _, _, .no_ h e l r, e' => by omega
  | _, _, _, _, .iz z h e l r, _ => Rps.nilk r rfl
  | _, _, _, _, .io_ h e l r, e' => by omega
theorem Rps.nilk : ∀ {k : Nat} {d : List D} {v : List V} {F : List Addr}, Rps K H Dz k d v F → k = 0 → F = []
  | _, _, _, _, .nil, _ => rfl
  | _, _, _, _, .cons h r, e => by rw [Rp.nilk h e, Rps.nilk r e]; rfl
end
theorem Rp.nil0 {d : D} {v : V} {F : List Addr} (h : Rp K H Dz 0 d v F) : F = [] := h.nilk rfl
theorem Rps.nil0 {d : List D} {v : List V} {F : List Addr} (h : Rps K H Dz 0 d v F) : F = [] := h.nilk rfl
mutual
/-- fewer levels of one's own: the others are given away -/
theorem Rp.freeze (dz : ∀ a, Dz a → Dz' a) : ∀ {k : Nat} {d : D} {v : V} {F : List Addr}, Rp K H Dz k d v F → (∀ a ∈ F, Dz' a) → ∀ (j : Nat), j ≤ k → ∃ G, Rp K H Dz' j d v G ∧ G.Sublist F
  | _, _, _, _, .non, _, j, _ => ⟨_, .non, List.Sublist.refl _⟩
  | _, _, _, _, .bl b, _, j, _ => ⟨_, .bl b, List.Sublist.refl _⟩
  | _, _, _, _, .int i, _, j, _ => ⟨_, .int i, List.Sublist.refl _⟩
  | _, _, _, _, .str x hx, _, j, _ => ⟨_, .str x hx, List.Sublist.refl _⟩
  | _, _, _, _, .tup h r, m, j, hj =>
    let ⟨G, r', g⟩ := Rps.freeze dz r m (j - 1) (by omega)
    ⟨G, .tup h r', g⟩
  | _, _, _, _, .lz z h r, m, j, hj => by
    obtain rfl : j = 0 := by omega
    obtain ⟨G, r', g⟩ := Rps.freeze dz r m 0 (Nat.le_refl _)
    exact ⟨G, .lz (dz _ z) h r', g⟩
  | _, _, _, _, .scr h r, m, j, hj =>
    let ⟨G, r', g⟩ := Rps.freeze dz r m 0 (Nat.le_refl _)
    ⟨G, .scr h r', g⟩
  | _, _, _, _, .lo h r, m, 0, hj => by
    obtain ⟨G, r', g⟩ := Rps.freeze dz r (fun a q => m a (List.mem_cons_of_mem _ q)) 0 (Nat.zero_le _)
    exact ⟨G, .lz (m _ List.mem_cons_self) h r', g.trans (List.sublist_cons_self _ _)⟩
  | _, _, _, _, .lo h r, m, j + 1, hj => by
    obtain ⟨G, r', g⟩ := Rps.freeze dz r (fun a q => m a (List.mem_cons_of_mem _ q)) j (by omega)
    exact ⟨_, .lo h r', g.cons_cons _⟩
  | _, _, _, _, .dz z h e r, m, j, hj => by
    obtain rfl : j = 0 := by omega
    obtain ⟨G, r', g⟩ := Rps.freeze dz r m 0 (Nat.le_refl _)
    exact ⟨G, .dz (dz _ z) h e r', g⟩
  | _, _, _, _, .do_ h e r, m, 0, hj => by
    obtain ⟨G, r', g⟩ := Rps.freeze dz r (fun a q => m a (List.mem_cons_of_mem _ q)) 0 (Nat.zero_le _)
    exact ⟨G, .dz (m _ List.mem_cons_self) h e r', g.trans (List.sublist_cons_self _ _)⟩
  | _, _, _, _, .do_ h e r, m, j + 1, hj => by
    obtain ⟨G, r', g⟩ := Rps.freeze dz r (fun a q => m a (List.mem_cons_of_mem _ q)) j (by omega)
    exact ⟨_, .do_ h e r', g.cons_cons _⟩
  | _, _, _, _, .nz z h e l r, m, j, hj => by
    obtain rfl : j = 0 := by omega
    obtain ⟨G, r', g⟩ := Rps.freeze dz r m 0 (Nat.le_refl _)
    exact ⟨G, .nz (dz _ z) h e l r', g⟩
  | _, _, _, _, .no_ h e l r, m, 0, hj => by
    obtain ⟨G, r', g⟩ := Rps.freeze dz r (fun a q => m a (List.mem_cons_of_mem _ q)) 0 (Nat.zero_le _)
    exact ⟨G, .nz (m _ List.mem_cons_self) h e l r', g.trans (List.sublist_cons_self _ _)⟩
  | _, _, _, _, .no_ h e l r, m, j + 1, hj => by
    obtain ⟨G, r', g⟩ := Rps.freeze dz r (fun a q => m a (List.mem_cons_of_mem _ q)) 0 (Nat.zero_le _)
    exact ⟨_, .no_ h e l r', g.cons_cons _⟩
  | _, _, _, _, .iz z h e l r, m, j, hj => by
    obtain rfl : j = 0 := by omega
    obtain ⟨G, r', g⟩ := Rps.freeze dz r m 0 (Nat.le_refl _)
    exact ⟨G, .iz (dz _ z) h e l r', g⟩
  | _, _, _, _, .io_ h e l r, m, 0, hj => by
    obtain ⟨G, r', g⟩ := Rps.freeze dz r (fun a q => m a (List.mem_cons_of_mem _ q)) 0 (Nat.zero_le _)
    exact ⟨G, .iz (m _ List.mem_cons_self) h e l r', g.trans (List.sublist_cons_self _ _)⟩
  | _, _, _, _, .io_ h e l r, m, j + 1, hj => by
    obtain ⟨G, r', g⟩ := Rps.freeze dz r (fun a q => m a (List.mem_cons_of_mem _ q)) j (by omega)
    exact ⟨_, .io_ h e l r', g.cons_cons _⟩
theorem Rps.freeze (dz : ∀ a, Dz a → Dz' a) : ∀ {k : Nat} {d : List D} {v : List V} {F : List Addr}, Rps K H Dz k d v F → (∀ a ∈ F, Dz' a) → ∀ (j : Nat), j ≤ k → ∃ G, Rps K H Dz' j d v G ∧ G.Sublist F
  | _, _, _, _, .nil, _, j, _ => ⟨_, .nil, List.Sublist.refl _⟩
  | _, _, _, _, .cons h r, m, j, hj =>
    let ⟨G, h', g⟩ := Rp.freeze dz h (fun a q => m a (List.mem_append_left _ q)) j hj
    let ⟨G', r', g'⟩ := Rps.freeze dz r (fun a q => m a (List.mem_append_right _ q)) j hj
    ⟨_, .cons h' r', g.append g'⟩
end
theorem Rps.len : ∀ {k : Nat} {d : List D} {v : List V} {F : List Addr}, Rps K H Dz k d v F → d.length = v.length
  | _, _, _, _, .nil => rfl
  | _, _, _, _, .cons _ r => by rw [List.length_cons, List.length_cons, Rps.len r]
theorem Rps.at : ∀ {k : Nat} {ds : List D} {vs : List V} {F : List Addr} {j : Nat} {d : D}, Rps K H Dz k ds vs F → ds[j]? = some d → ∃ v G, vs[j]? = some v ∧ Rp K H Dz k d v G ∧ G.Sublist F
  | _, _, _, _, j, d, .nil, e => by simp at e
  | _, _, _, _, 0, d, .cons h r, e => by
    simp at e; subst e
    exact ⟨_, _, rfl, h, List.sublist_append_left _ _⟩
  | _, _, _, _, j + 1, d, .cons h r, e => by
    obtain ⟨v, G, e1, h1, g⟩ := Rps.at (j := j) r (by simpa using e)
    exact ⟨v, G, by simpa using e1, h1, g.trans (List.sublist_append_right _ _)⟩
theorem Rps.app0 : ∀ {a b : List D} {v w : List V}, Rps K H Dz 0 a v [] → Rps K H Dz 0 b w [] → Rps K H Dz 0 (a ++ b) (v ++ w) []
  | _, _, _, _, h, r => by
    have go : ∀ {a : List D} {v : List V} {F : List Addr}, Rps K H Dz 0 a v F → ∀ {b : List D} {w : List V}, Rps K H Dz 0 b w [] → Rps K H Dz 0 (a ++ b) (v ++ w) [] := by
      intro a
      induction a with
      | nil => intro v F h b w r; cases h; exact r
      | cons x a ih =>
        intro v F h b w r
        cases h with
        | cons h1 h2 =>
          have e1 := h1.nil0
          subst e1
          exact Rps.cons (F := []) (G := []) h1 (ih h2 r)
    exact go h r
/-- each by itself -/
theorem Rps.iff0 {a : List D} {v : List V} : Rps K H Dz 0 a v [] ↔ a.length = v.length ∧ ∀ (j : Nat) (d : D) (w : V), a[j]? = some d → v[j]? = some w → Rp K H Dz 0 d w [] := by
  constructor
  · intro h
    refine ⟨h.len, fun j d w e1 e2 => ?_⟩
    obtain ⟨u, G, e3, r, _⟩ := h.at e1
    rw [e2] at e3; cases e3
    have := r.nil0; subst this; exact r
  · rintro ⟨hl, h⟩
    induction a generalizing v with
    | nil => cases v with
      | nil => exact .nil
      | cons _ _ => simp at hl
    | cons x a ih => cases v with
      | nil => simp at hl
      | cons y v =>
        refine Rps.cons (F := []) (G := []) (h 0 x y rfl rfl) (ih (by simpa using hl) fun j d w e1 e2 => h (j + 1) d w (by simpa using e1) (by simpa using e2))
theorem Rps.one0 {d : D} {v : V} (h : Rp K H Dz 0 d v []) : Rps K H Dz 0 [d] [v] [] := Rps.cons (F := []) (G := []) h .nil
theorem Rps.rev0 {a : List D} {v : List V} (h : Rps K H Dz 0 a v []) : Rps K H Dz 0 a.reverse v.reverse [] := by
  rw [Rps.iff0] at h ⊢
  obtain ⟨hl, h⟩ := h
  refine ⟨by simp [hl], fun j d w e1 e2 => ?_⟩
  have hj : j < a.length := by
    have := (List.getElem?_eq_some_iff.mp e1).1
    simpa using this
  rw [List.getElem?_reverse hj] at e1
  rw [List.getElem?_reverse (hl ▸ hj)] at e2
  exact h _ d w e1 (hl ▸ e2)
theorem Rps.take0 {a : List D} {v : List V} (n : Nat) (h : Rps K H Dz 0 a v []) : Rps K H Dz 0 (a.take n) (v.take n) [] := by
  rw [Rps.iff0] at h ⊢
  obtain ⟨hl, h⟩ := h
  refine ⟨by simp [hl], fun j d w e1 e2 => ?_⟩
  rw [List.getElem?_take] at e1 e2
  split at e1
  · rename_i hj
    rw [if_pos hj] at e2
    exact h j d w e1 e2
  · cases e1
theorem Rps.drop0 {a : List D} {v : List V} (n : Nat) (h : Rps K H Dz 0 a v []) : Rps K H Dz 0 (a.drop n) (v.drop n) [] := by
  rw [Rps.iff0] at h ⊢
  obtain ⟨hl, h⟩ := h
  refine ⟨by simp [hl], fun j d w e1 e2 => ?_⟩
  rw [List.getElem?_drop] at e1 e2
  exact h _ d w e1 e2
theorem Rps.set0 {a : List D} {v : List V} {d : D} {w : V} (j : Nat) (h : Rps K H Dz 0 a v []) (r : Rp K H Dz 0 d w []) : Rps K H Dz 0 (a.set j d) (v.set j w) [] := by
  rw [Rps.iff0] at h ⊢
  obtain ⟨hl, h⟩ := h
  refine ⟨by simp [hl], fun i d' w' e1 e2 => ?_⟩
  rw [List.getElem?_set] at e1 e2
  split at e1
  · rename_i e
    rw [if_pos e] at e2
    split at e1
    · rw [if_pos (by omega)] at e2
      cases e1; cases e2; exact r
    · cases e1
  · rename_i e
    rw [if_neg e] at e2
    exact h i d' w' e1 e2
theorem Rps.perm0 {a : List D} {v : List V} (h : Rps K H Dz 0 a v []) (f : List Nat) : Rps K H Dz 0 (f.filterMap fun i => a[i]?) (f.filterMap fun i => v[i]?) [] := by
  rw [Rps.iff0] at h
  obtain ⟨hl, h⟩ := h
  induction f with
  | nil => exact .nil
  | cons i f ih =>
    rw [List.filterMap_cons, List.filterMap_cons]
    cases e1 : a[i]? with
    | none =>
      have : v[i]? = none := by
        rw [List.getElem?_eq_none_iff] at e1 ⊢
        omega
      rw [this]; exact ih
    | some d =>
      have hi : i < v.length := by
        have := (List.getElem?_eq_some_iff.mp e1).1
        omega
      rw [List.getElem?_eq_getElem hi]
      exact Rps.cons (F := []) (G := []) (h i d _ e1 (List.getElem?_eq_getElem hi)) ih
/-- nothing to own within k levels -/
theorem Rp.solid : ∀ {k : Nat} {d : D} {v : V}, Rp K H Dz 0 d v [] → solid k d = true → Rp K H Dz k d v []
  | 0, _, _, h, _ => h
  | k + 1, .non, _, h, _ => by cases h; exact .non
  | k + 1, .bl _, _, h, _ => by cases h; exact .bl _
  | k + 1, .int _, _, h, _ => by cases h; exact .int _
  | k + 1, .str _, _, h, _ => by cases h with | str _ hx => exact .str _ hx
  | k + 1, .lst _, _, h, e => by simp [Ti.solid] at e
  | k + 1, .scr _, _, h, e => by cases h with | scr a b => exact .scr a b
  | k + 1, .dct _, _, h, e => by simp [Ti.solid] at e
  | k + 1, .ins _ _, _, h, e => by simp [Ti.solid] at e
  | k + 1, .dcn _, _, h, e => by simp [Ti.solid] at e
  | k + 1, .tup ds, _, h, e => by
    cases h with
    | tup hs hr =>
      refine .tup hs ?_
      simp only [Ti.solid, List.all_eq_true] at e
      have hk : (0 : Nat) - 1 = 0 := rfl
      rw [hk] at hr
      have go : ∀ {ds : List D} {vs : List V}, (∀ x ∈ ds, Ti.solid k x = true) → Rps K H Dz 0 ds vs [] → Rps K H Dz k ds vs [] := by
        intro ds
        induction ds with
        | nil => intro vs _ h; cases h; exact .nil
        | cons x ds ih =>
          intro vs hx h
          generalize eF : ([] : List Addr) = F at h
          cases h with
          | cons h1 h2 =>
            have e1 := h1.nil0
            have e2 := h2.nil0
            subst e1; subst e2
            exact Rps.cons (F := []) (G := []) (Rp.solid h1 (hx x List.mem_cons_self)) (ih (fun y hy => hx y (List.mem_cons_of_mem _ hy)) h2)
      exact go e hr
/-- nothing to own: nobody's -/
theorem Rp.unsolid : ∀ {k : Nat} {d : D} {v : V} {G : List Addr}, Rp K H Dz k d v G → Ti.solid k d = true → Rp K H Dz 0 d v []
  | 0, _, _, _, h, _ => by
    obtain rfl := h.nil0
    exact h
  | k + 1, d, v, G, h, e => by
    have go : ∀ {ds : List D} {vs : List V} {F : List Addr}, (∀ x ∈ ds, Ti.solid k x = true) → Rps K H Dz k ds vs F → Rps K H Dz 0 ds vs [] := by
      intro ds
      induction ds with
      | nil => intro vs F _ h; cases h; exact .nil
      | cons x ds ih =>
        intro vs F hx h
        cases h with
        | cons h1 h2 => exact Rps.cons (F := []) (G := []) (Rp.unsolid h1 (hx x List.mem_cons_self)) (ih (fun y hy => hx y (List.mem_cons_of_mem _ hy)) h2)
    cases h with
    | non => exact .non
    | bl b => exact .bl b
    | int i => exact .int i
    | str x hx => exact .str x hx
    | scr a b =>
      obtain rfl := b.nil0
      exact .scr a b
    | tup hs hr =>
      simp only [Ti.solid, List.all_eq_true] at e
      exact .tup hs (go e hr)
    | lo hs hr => simp [Ti.solid] at e
    | do_ hs hk hr => simp [Ti.solid] at e
    | io_ hs hc hl hr => simp [Ti.solid] at e
    | no_ hs hc hl hr => simp [Ti.solid] at e
/-- what only it owns -/
theorem Rp.only1 {k : Nat} {d : D} {v : V} {G : List Addr} (h : Rp K H Dz (k + 1) d v G) (e : deep 1 (k + 1) d = true) : ∃ G', Rp K H Dz 1 d v G' ∧ G'.Sublist G := by
  have go : ∀ {ds : List D} {vs : List V} {F : List Addr}, (∀ x ∈ ds, Ti.solid k x = true) → Rps K H Dz k ds vs F → Rps K H Dz 0 ds vs [] := by
    intro ds
    induction ds with
    | nil => intro vs F _ h; cases h; exact .nil
    | cons x ds ih =>
      intro vs F hx h
      cases h with
      | cons h1 h2 => exact Rps.cons (F := []) (G := []) (Rp.unsolid h1 (hx x List.mem_cons_self)) (ih (fun y hy => hx y (List.mem_cons_of_mem _ hy)) h2)
  have one : ∀ {a : Addr} {F : List Addr}, [a].Sublist (a :: F) := List.Sublist.cons₂ _ (List.nil_sublist _)
  cases h with
  | non => exact ⟨_, .non, List.nil_sublist _⟩
  | bl b => exact ⟨_, .bl b, List.nil_sublist _⟩
  | int i => exact ⟨_, .int i, List.nil_sublist _⟩
  | str x hx => exact ⟨_, .str x hx, List.nil_sublist _⟩
  | scr a b => exact ⟨_, .scr a b, List.Sublist.refl _⟩
  | tup hs hr =>
    simp only [deep, List.all_eq_true] at e
    exact ⟨_, .tup hs (go e hr), List.nil_sublist _⟩
  | lo hs hr =>
    simp only [deep, List.all_eq_true] at e
    exact ⟨_, .lo hs (go e hr), one⟩
  | do_ hs hk hr =>
    simp only [deep, List.all_eq_true] at e
    exact ⟨_, .do_ hs hk (go (fun x hx => by obtain ⟨p, hp, rfl⟩ := List.mem_map.mp hx; exact e p hp) hr), one⟩
  | io_ hs hc hl hr =>
    simp only [deep, List.all_eq_true] at e
    exact ⟨_, .io_ hs hc hl (go (fun x hx => by obtain ⟨p, hp, rfl⟩ := List.mem_map.mp hx; exact e p hp) hr), one⟩
  | no_ hs hc hl hr => exact ⟨_, .no_ hs hc hl hr, List.Sublist.refl _⟩
/-- fit for more levels -/
theorem Rp.deepen : ∀ {j w : Nat} {d : D} {v : V} {G : List Addr}, Rp K H Dz j d v G → j ≤ w → deep j w d = true → Rp K H Dz w d v G
  | 0, w, d, v, G, h, _, e => by
    obtain rfl := h.nil0
    exact h.solid (by simpa [deep] using e)
  | j + 1, 0, _, _, _, _, hj, _ => by omega
  | j + 1, w + 1, d, v, G, h, hj, e => by
    have go : ∀ {ds : List D} {vs : List V} {F : List Addr}, (∀ x ∈ ds, deep j w x = true) → Rps K H Dz j ds vs F → Rps K H Dz w ds vs F := by
      intro ds
      induction ds with
      | nil => intro vs F _ h; cases h; exact .nil
      | cons x ds ih =>
        intro vs F hx h
        cases h with
        | cons h1 h2 => exact .cons (Rp.deepen h1 (by omega) (hx x List.mem_cons_self)) (ih (fun y hy => hx y (List.mem_cons_of_mem _ hy)) h2)
    cases h with
    | non => exact .non
    | bl b => exact .bl b
    | int i => exact .int i
    | str x hx => exact .str x hx
    | scr a b => exact .scr a b
    | tup hs hr =>
      simp only [deep, List.all_eq_true] at e
      exact .tup hs (go e hr)
    | lo hs hr =>
      simp only [deep, List.all_eq_true] at e
      exact .lo hs (go e hr)
    | do_ hs hk hr =>
      simp only [deep, List.all_eq_true] at e
      exact .do_ hs hk (go (fun x hx => by
        obtain ⟨p, hp, rfl⟩ := List.mem_map.mp hx
        exact e p hp) hr)
    | no_ hs hc hl hr => exact .no_ hs hc hl hr
    | io_ hs hc hl hr =>
      simp only [deep, List.all_eq_true] at e
      exact .io_ hs hc hl (go (fun x hx => by
        obtain ⟨p, hp, rfl⟩ := List.mem_map.mp hx
        exact e p hp) hr)
theorem ofString_inj0 {x y : String} (h : Str.ofString x = Str.ofString y) : x = y := by
  rw [Str.ofString_eq_toList, Str.ofString_eq_toList] at h
  have h1 : (x.toList.map Char.toNat).toArray = (y.toList.map Char.toNat).toArray := congrArg Str.cps h
  have h2 : x.toList.map Char.toNat = y.toList.map Char.toNat := by simpa using h1
  have h3 : x.toList = y.toList := by
    refine List.map_inj_right ?_ |>.mp h2
    intro a b hab
    exact Char.toNat_inj.mp hab
  exact String.toList_inj.mp h3
/-- a field's value -/
theorem look_fld {k : Nat} {f : String} : ∀ {fs : List (String × D)} {es : List (Str × V)} {F : List Addr}, FldL fs es → Rps K H Dz k (fs.map (·.2)) (es.map (·.2)) F →
    (fs.lookup f = none ∧ es.lookup (Str.ofString f) = none ∧ (∀ y, setFld fs f y = fs ++ [(f, y)]) ∧ ∀ y, L2.putF (Str.ofString f) y es = es ++ [(Str.ofString f, y)]) ∨ ∃ (j : Nat) (d : D) (v : V), fs.lookup f = some d ∧ es.lookup (Str.ofString f) = some v ∧ (fs.map (·.2))[j]? = some d ∧ (es.map (·.2))[j]? = some v ∧
      (∀ y, (setFld fs f y).map (·.2) = (fs.map (·.2)).set j y ∧ (setFld fs f y).map (·.1) = fs.map (·.1)) ∧ ∀ y, L2.putF (Str.ofString f) y es = (es.set j (Str.ofString f, y)) ∧ es.map (·.1) = (es.set j (Str.ofString f, y)).map (·.1)
  | [], es, F, h1, h2 => by
    cases es with
    | nil => exact .inl ⟨rfl, rfl, fun _ => rfl, fun _ => rfl⟩
    | cons _ _ => simp [FldL] at h1
  | (g, d) :: fs, es, F, h1, h2 => by
    cases es with
    | nil => simp [FldL] at h1
    | cons p es =>
      obtain ⟨x, u⟩ := p
      simp only [FldL, List.map_cons, List.cons.injEq] at h1
      obtain ⟨rfl, h1⟩ := h1
      cases h2 with
      | cons r1 r2 =>
        by_cases hg : g = f
        · subst hg
          refine .inr ⟨0, d, u, by simp [List.lookup], by simp [List.lookup], rfl, rfl, fun y => ?_, fun y => ?_⟩
          · simp [setFld]
          · simp [L2.putF]
        · have hx : ¬ Str.ofString g = Str.ofString f := fun z => hg (ofString_inj0 z)
          have b1 : (f == g) = false := by simpa using fun z => hg z.symm
          have b2 : (Str.ofString f == Str.ofString g) = false := by simpa using fun z => hx z.symm
          rcases look_fld (f := f) (fs := fs) h1 r2 with ⟨z1, z2, z3, z4⟩ | ⟨j, d', v', z1, z2, z3, z4, z5, z6⟩
          · exact .inl ⟨by simp [List.lookup, b1, z1], by simp [List.lookup, b2, z2], fun y => by simp [setFld, if_neg hg, z3], fun y => by simp [L2.putF, if_neg hx, z4]⟩
          · refine .inr ⟨j + 1, d', v', by simp [List.lookup, b1, z1], by simp [List.lookup, b2, z2], by simpa using z3, by simpa using z4, fun y => ?_, fun y => ?_⟩
            · obtain ⟨q1, q2⟩ := z5 y
              simp only [setFld, if_neg hg, List.map_cons, List.set_cons_succ, q1, q2]
              exact ⟨trivial, trivial⟩
            · obtain ⟨q1, q2⟩ := z6 y
              simp only [L2.putF, if_neg hx, List.map_cons, List.set_cons_succ, q1, ← q2]
              exact ⟨trivial, trivial⟩
end
end Ti
end

section
/-! slots over the heap, values at hand, what a piece of code does to them -/
namespace Ti
open PySem PySem.Spec PyProof.Rows L2
variable [PWc]

section
variable {K : PySem.W.Frag}
mutual
theorem Rp.mut {H : Hp} {Dz : Addr → Prop} : ∀ {k : Nat} {d : D} {v : V} {F : List Addr}, Rp K H Dz k d v F → ∀ a ∈ F, Mut (H a)
  | _, _, _, _, .non, _, m => by cases m
  | _, _, _, _, .bl b, _, m => by cases m
  | _, _, _, _, .int i, _, m => by cases m
  | _, _, _, _, .str x _, _, m => by cases m
  | _, _, _, _, .tup h r, a, m => Rps.mut r a m
  | _, _, _, _, .lz z h r, a, m => Rps.mut r a m
  | _, _, _, _, .scr h r, a, m => Rps.mut r a m
  | _, _, _, _, .lo h r, a, m => by
    rcases List.mem_cons.mp m with e | m
    · rw [e, h]; exact True.intro
    · exact Rps.mut r a m
  | _, _, _, _, .dz z h e r, a, m => Rps.mut r a m
  | _, _, _, _, .do_ h e r, a, m => by
    rcases List.mem_cons.mp m with e | m
    · rw [e, h]; exact True.intro
    · exact Rps.mut r a m
  | _, _, _, _, .nz z h e l r, a, m => Rps.mut r a m
  | _, _, _, _, .no_ h e l r, a, m => by
    rcases List.mem_cons.mp m with e | m
    · rw [e, h]; exact True.intro
    · exact Rps.mut r a m
  | _, _, _, _, .iz z h e l r, a, m => Rps.mut r a m
  | _, _, _, _, .io_ h e l r, a, m => by
    rcases List.mem_cons.mp m with e | m
    · rw [e, h]; exact True.intro
    · exact Rps.mut r a m
theorem Rps.mut {H : Hp} {Dz : Addr → Prop} : ∀ {k : Nat} {d : List D} {v : List V} {F : List Addr}, Rps K H Dz k d v F → ∀ a ∈ F, Mut (H a)
  | _, _, _, _, .nil, _, m => by cases m
  | _, _, _, _, .cons h r, a, m => (List.mem_append.mp m).elim (Rp.mut h a) (Rps.mut r a)
end
theorem tracked {H : Hp} {a : Addr} (h : Mut (H a)) : H a ≠ none := fun e => by rw [e] at h; exact h

def SlotOk (K : PySem.W.Frag) (B : Addr → Prop) (H : Hp) (Dz : Addr → Prop) (F : Nat → List Addr) (i : Nat) (ov : Option (Option V)) : Slot → Prop
  | .no => F i = []
  | .bo k d => F i = [] ∧ ∃ v G, ov = some (some v) ∧ Rp K H Dz k d v G ∧ ∀ a ∈ G, B a
  | .ow k d => ∃ v, ov = some (some v) ∧ Rp K H Dz k d v (F i)
structure Rel (K : PySem.W.Frag) (B Dz : Addr → Prop) (F : Nat → List Addr) (s : Sl) (σ : L2.St) (H : Hp) : Prop where
  len : s.length = σ.length
  sl : ∀ i x, s[i]? = some x → SlotOk K B H Dz F i σ[i]? x
  nd : ∀ i, (F i).Nodup
  dj : ∀ i j a, a ∈ F i → a ∈ F j → i = j
  dz : ∀ i a, a ∈ F i → ¬ Dz a
  out : ∀ i, s.length ≤ i → F i = []
  mt : ∀ i, ∀ a ∈ F i, Mut (H a)
  tk : ∀ a, Dz a → H a ≠ none
  bz : ∀ i a, a ∈ F i → ¬ B a
  bt : ∀ a, B a → H a ≠ none
def RvOk (K : PySem.W.Frag) (B : Addr → Prop) (H : Hp) (Dz : Addr → Prop) (F : Nat → List Addr) : RV → V → List Addr → Prop
  | .ow k d, v, G => Rp K H Dz k d v G ∧ G.Nodup ∧ ∀ a ∈ G, ¬ Dz a ∧ ¬ B a ∧ ∀ j, a ∉ F j
  | .bo src k d, v, G => G = [] ∧ ∃ G', Rp K H Dz k d v G' ∧ ∀ a ∈ G', B a ∨ ∃ j ∈ src, a ∈ F j
structure Tr (M : List Nat) (Dz : Addr → Prop) (F : Nat → List Addr) (H : Hp) (Dz' : Addr → Prop) (F' : Nat → List Addr) (H' : Hp) : Prop where
  dz : ∀ a, Dz a → Dz' a
  new : ∀ a, Dz' a → Dz a ∨ H a = none ∨ ∃ i ∈ M, a ∈ F i
  keep : ∀ a o, H a = some o → (∀ i ∈ M, a ∉ F i) → H' a = some o
  nm : ∀ a o, H a = some o → ¬ Mut (some o) → H' a = some o
  fs : ∀ i, i ∉ M → F' i = F i
  fn : ∀ i a, i ∈ M → a ∈ F' i → H a = none ∨ ∃ j ∈ M, a ∈ F j

variable {B Dz Dz' Dz1 Dz2 : Addr → Prop} {F F' F1 F2 : Nat → List Addr} {H H' H1 H2 : Hp} {M M1 M2 : List Nat} {s : Sl} {σ : L2.St}
theorem Tr.refl (M : List Nat) : Tr M Dz F H Dz F H := ⟨fun _ z => z, fun _ z => .inl z, fun _ _ e _ => e, fun _ _ e _ => e, fun _ _ => rfl, fun i _ hi m => .inr ⟨i, hi, m⟩⟩
theorem Tr.mono (t : Tr M Dz F H Dz' F' H') (h : ∀ i ∈ M, i ∈ M1) : Tr M1 Dz F H Dz' F' H' :=
  ⟨t.dz, fun a z => (t.new a z).imp id (.imp id fun ⟨i, hi, m⟩ => ⟨i, h i hi, m⟩), fun a o e k => t.keep a o e fun i hi => k i (h i hi), t.nm, fun i hi => t.fs i fun z => hi (h i z), fun i a hi m => by
    by_cases hM : i ∈ M
    · exact (t.fn i a hM m).imp id fun ⟨j, hj, m⟩ => ⟨j, h j hj, m⟩
    · rw [t.fs i hM] at m
      exact .inr ⟨i, hi, m⟩⟩
theorem Tr.none_of (t : Tr M Dz F H Dz' F' H') {a : Addr} (e : H' a = none) : H a = none ∨ ∃ i ∈ M, a ∈ F i := by
  by_cases h : ∃ i ∈ M, a ∈ F i
  · exact .inr h
  · cases q : H a with
    | none => exact .inl rfl
    | some o =>
      have := t.keep a o q fun i hi m => h ⟨i, hi, m⟩
      rw [e] at this; cases this
theorem Tr.back (t : Tr M Dz F H Dz' F' H') {a : Addr} {i : Nat} (m : a ∈ F' i) : a ∈ F i ∨ H a = none ∨ ∃ j ∈ M, a ∈ F j := by
  by_cases hM : i ∈ M
  · exact .inr (t.fn i a hM m)
  · rw [t.fs i hM] at m
    exact .inl m
theorem Tr.trans (t : Tr M1 Dz F H Dz1 F1 H1) (u : Tr M2 Dz1 F1 H1 Dz2 F2 H2) : Tr (M1 ++ M2) Dz F H Dz2 F2 H2 := by
  have lift1 : ∀ {a : Addr}, (∃ i ∈ M1, a ∈ F i) → ∃ i ∈ M1 ++ M2, a ∈ F i := fun ⟨i, hi, m⟩ => ⟨i, List.mem_append_left _ hi, m⟩
  have lift2 : ∀ {a : Addr}, (∃ i ∈ M2, a ∈ F1 i) → H a = none ∨ ∃ i ∈ M1 ++ M2, a ∈ F i := fun ⟨i, hi, m⟩ => by
    rcases t.back m with h | h | h
    · exact .inr ⟨i, List.mem_append_right _ hi, h⟩
    · exact .inl h
    · exact .inr (lift1 h)
  have liftn : ∀ {a : Addr}, H1 a = none → H a = none ∨ ∃ i ∈ M1 ++ M2, a ∈ F i := fun e => (t.none_of e).imp id lift1
  refine ⟨fun a z => u.dz a (t.dz a z), fun a z => ?_, fun a o e k => ?_, fun a o e n => u.nm a o (t.nm a o e n) n, fun i hi => ?_, fun i a hi m => ?_⟩
  · rcases u.new a z with z | z | z
    · rcases t.new a z with z | z | z
      · exact .inl z
      · exact .inr (.inl z)
      · exact .inr (.inr (lift1 z))
    · exact .inr (liftn z)
    · exact .inr (lift2 z)
  · refine u.keep a o (t.keep a o e fun i hi => k i (List.mem_append_left _ hi)) fun i hi m => ?_
    rcases lift2 ⟨i, hi, m⟩ with h | ⟨j, hj, m⟩
    · rw [h] at e; cases e
    · exact k j hj m
  · rw [u.fs i fun z => hi (List.mem_append_right _ z), t.fs i fun z => hi (List.mem_append_left _ z)]
  · rcases u.back m with h | h | h
    · rcases t.back h with h' | h' | h'
      · exact .inr ⟨i, hi, h'⟩
      · exact .inl h'
      · exact .inr (lift1 h')
    · exact liftn h
    · exact lift2 h

theorem clash_not {src ms : List Nat} (h : clash src ms = false) {i : Nat} (hi : i ∈ src) : i ∉ ms := fun hm => by
  unfold clash at h
  rw [List.any_eq_false] at h
  exact h i hi (by simpa using hm)
/-- a value at hand stays -/
theorem RvOk.tr {r : RV} {v : V} {G : List Addr} (R : Rel K B Dz F s σ H) (h : RvOk K B H Dz F r v G) (t : Tr M Dz F H Dz' F' H') (c : clash r.src M = false) : RvOk K B H' Dz' F' r v G := by
  have kz : ∀ a o, H a = some o → Dz a → H' a = some o := fun a o e z => t.keep a o e fun i _ m => R.dz i a m z
  cases r with
  | ow k d =>
    obtain ⟨h1, h2, h3⟩ := h
    refine ⟨h1.stay t.dz t.nm kz fun a o e m => t.keep a o e fun i _ => (h3 a m).2.2 i, h2, fun a m => ⟨fun z => ?_, (h3 a m).2.1, fun j mj => ?_⟩⟩
    · rcases t.new a z with z | z | ⟨i, _, z⟩
      · exact (h3 a m).1 z
      · exact tracked (h1.mut a m) z
      · exact (h3 a m).2.2 i z
    · rcases t.back mj with z | z | ⟨i, _, z⟩
      · exact (h3 a m).2.2 j z
      · exact tracked (h1.mut a m) z
      · exact (h3 a m).2.2 i z
  | bo src k d =>
    obtain ⟨h1, G', h2, h3⟩ := h
    refine ⟨h1, G', h2.stay t.dz t.nm kz fun a o e m => t.keep a o e fun i hi mi => ?_, fun a m => ?_⟩
    · rcases h3 a m with z | ⟨j, hj, z⟩
      · exact R.bz i a mi z
      · obtain rfl := R.dj i j a mi z
        exact clash_not c hj hi
    · rcases h3 a m with z | ⟨j, hj, z⟩
      · exact .inl z
      · exact .inr ⟨j, hj, by rw [t.fs j (clash_not c hj)]; exact z⟩
/-- the heap grows -/
theorem Rel.grow (R : Rel K B Dz F s σ H) (k : Same H H') (dz : ∀ a, Dz a → Dz' a) (new : ∀ a, Dz' a → Dz a ∨ H a = none) (tk : ∀ a, Dz' a → H' a ≠ none) : Rel K B Dz' F s σ H' := by
  have st : ∀ {k' : Nat} {d : D} {v : V} {G : List Addr}, Rp K H Dz k' d v G → Rp K H' Dz' k' d v G := fun h => h.stay dz (fun a o e _ => k a o e) (fun a o e _ => k a o e) fun a o e _ => k a o e
  refine ⟨R.len, fun i x e => ?_, R.nd, R.dj, fun i a m z => ?_, R.out, fun i a m => ?_, tk, R.bz, fun a z => ?_⟩
  · have h := R.sl i x e
    cases x with
    | no => exact h
    | bo k d => obtain ⟨h1, v, G, h2, h3, h4⟩ := h; exact ⟨h1, v, G, h2, st h3, h4⟩
    | ow k d => obtain ⟨v, h2, h3⟩ := h; exact ⟨v, h2, st h3⟩
  · rcases new a z with z | z
    · exact R.dz i a m z
    · exact tracked (R.mt i a m) z
  · have h := R.mt i a m
    cases q : H a with
    | none => rw [q] at h; cases h
    | some o => rw [q] at h; rw [k a o q]; exact h
  · cases q : H a with
    | none => exact absurd q (R.bt a z)
    | some o => rw [k a o q]; exact fun z => nomatch z
theorem Tr.grow (k : Same H H') (dz : ∀ a, Dz a → Dz' a) (new : ∀ a, Dz' a → Dz a ∨ H a = none) : Tr [] Dz F H Dz' F H' :=
  ⟨dz, fun a z => (new a z).imp id .inl, fun a o e _ => k a o e, fun a o e _ => k a o e, fun _ _ => rfl, fun _ _ hi => by cases hi⟩
theorem RvOk.grow {r : RV} {v : V} {G : List Addr} (R : Rel K B Dz F s σ H) (h : RvOk K B H Dz F r v G) (k : Same H H') (dz : ∀ a, Dz a → Dz' a) (new : ∀ a, Dz' a → Dz a ∨ H a = none) : RvOk K B H' Dz' F r v G :=
  h.tr R (Tr.grow k dz new) (by
    unfold clash
    rw [List.any_eq_false]
    intro i _
    simp)

/-- a value at hand, as it is read: any levels -/
theorem RvOk.rp {r : RV} {v : V} {G : List Addr} (h : RvOk K B H Dz F r v G) : ∃ G', Rp K H Dz r.k r.d v G' := by
  cases r with
  | ow k d => exact ⟨_, h.1⟩
  | bo src k d => obtain ⟨_, G', h2, _⟩ := h; exact ⟨_, h2⟩
/-- what a result is to be for the rest -/
def Fin (K : PySem.W.Frag) (H : Hp) (Dz : Addr → Prop) (k : Nat) (d : D) (Q : VK) : Prop :=
  ∀ (v : V) (H' : Hp) (Dz' : Addr → Prop) (G : List Addr), Same H H' → (∀ a, Dz a → Dz' a) → (∀ a, Dz' a → Dz a ∨ H a = none) → (∀ a, Dz' a → H' a ≠ none) → Rp K H' Dz' k d v G → G.Nodup → (∀ a ∈ G, H a = none ∧ ¬ Dz' a) → Q v H'
theorem Fin.val {k : Nat} {d : D} {Q : VK} (f : Fin K H Dz k d Q) (tk : ∀ a, Dz a → H a ≠ none) {v : V} (h : Rp K H Dz k d v []) : Q v H :=
  f v H Dz [] (Same.refl H) (fun _ z => z) (fun _ z => .inl z) tk h .nil fun _ m => by cases m
theorem same_new {p : Addr} {o : HO} (hp : H p = none) : Same H (upd H p o) := fun b u e => by rw [upd_ne (ne_of_none e hp)]; exact e
theorem Rps.up {k : Nat} {ds : List D} {vs : List V} {G : List Addr} (h : Rps K H Dz k ds vs G) (s : Same H H') (dz : ∀ a, Dz a → Dz' a) : Rps K H' Dz' k ds vs G := h.stay dz (fun a o e _ => s a o e) (fun a o e _ => s a o e) fun a o e _ => s a o e
theorem Rp.up {k : Nat} {d : D} {v : V} {G : List Addr} (h : Rp K H Dz k d v G) (s : Same H H') (dz : ∀ a, Dz a → Dz' a) : Rp K H' Dz' k d v G := h.stay dz (fun a o e _ => s a o e) (fun a o e _ => s a o e) fun a o e _ => s a o e
/-- one footprint replaced -/
def fset (F : Nat → List Addr) (i : Nat) (G : List Addr) : Nat → List Addr := fun j => if j = i then G else F j
theorem fset_same {i : Nat} {G : List Addr} : fset F i G i = G := if_pos rfl
theorem fset_ne {i j : Nat} {G : List Addr} (h : j ≠ i) : fset F i G j = F j := if_neg h
theorem fset_in {i j : Nat} {G : List Addr} {a : Addr} (m : a ∈ fset F i G j) : (j = i ∧ a ∈ G) ∨ (j ≠ i ∧ a ∈ F j) := by
  by_cases h : j = i
  · subst h; rw [fset_same] at m; exact .inl ⟨rfl, m⟩
  · rw [fset_ne h] at m; exact .inr ⟨h, m⟩
/-- a slot is stored -/
theorem Rel.put {i : Nat} {x : Slot} {G : List Addr} {σ' : L2.St} (R : Rel K B Dz F s σ H) (hi : i < s.length) (hl : σ'.length = σ.length) (hσ : ∀ j, j ≠ i → σ'[j]? = σ[j]?) (hx : SlotOk K B H Dz (fset F i G) i σ'[i]? x)
    (nd : G.Nodup) (hG : ∀ a ∈ G, ¬ Dz a ∧ ¬ B a ∧ (∀ j, j ≠ i → a ∉ F j) ∧ Mut (H a)) : Rel K B Dz (fset F i G) (s.set i x) σ' H := by
  refine ⟨by rw [List.length_set, hl]; exact R.len, fun j y e => ?_, fun j => ?_, fun j l a m1 m2 => ?_, fun j a m => ?_, fun j hj => ?_, fun j a m => ?_, R.tk, fun j a m => ?_, R.bt⟩
  · by_cases hij : i = j
    · subst hij
      rw [List.getElem?_set_self hi] at e
      cases e; exact hx
    · rw [List.getElem?_set_ne hij] at e
      have h := R.sl j y e
      have hj : j ≠ i := fun z => hij z.symm
      cases y with
      | no => show fset F i G j = []; rw [fset_ne hj]; exact h
      | bo k d =>
        obtain ⟨h1, v, G', h2, h3, h4⟩ := h
        exact ⟨by rw [fset_ne hj]; exact h1, v, G', by rw [hσ j hj]; exact h2, h3, h4⟩
      | ow k d =>
        obtain ⟨v, h2, h3⟩ := h
        exact ⟨v, by rw [hσ j hj]; exact h2, by rw [fset_ne hj]; exact h3⟩
  · by_cases h : j = i
    · subst h; rw [fset_same]; exact nd
    · rw [fset_ne h]; exact R.nd j
  · rcases fset_in m1 with ⟨e1, z1⟩ | ⟨h1, z1⟩
    · rcases fset_in m2 with ⟨e2, z2⟩ | ⟨h2, z2⟩
      · rw [e1, e2]
      · exact absurd z2 ((hG a z1).2.2.1 l h2)
    · rcases fset_in m2 with ⟨e2, z2⟩ | ⟨h2, z2⟩
      · exact absurd z1 ((hG a z2).2.2.1 j h1)
      · exact R.dj j l a z1 z2
  · rcases fset_in m with ⟨_, z⟩ | ⟨_, z⟩
    · exact (hG a z).1
    · exact R.dz j a z
  · rw [List.length_set] at hj
    have : j ≠ i := by omega
    rw [fset_ne this]; exact R.out j hj
  · rcases fset_in m with ⟨_, z⟩ | ⟨_, z⟩
    · exact (hG a z).2.2.2
    · exact R.mt j a z
  · rcases fset_in m with ⟨_, z⟩ | ⟨_, z⟩
    · exact (hG a z).2.1
    · exact R.bz j a z
end
end Ti
end

section
/-! what an expression of the small language promises of a written one -/
namespace Ti
open PySem PySem.Spec PyProof.Rows L2
variable [PWc]

theorem PE.imp {X : Cx} {e : Expr} {t u : TE} (h : PE X e u) (i : ∀ σ H Q, t σ H Q → u σ H Q) : PE X e t := ⟨fun pins s σ H Q I q => h.run pins s σ H Q I (i σ H Q q)⟩
theorem PT.imp {X : Cx} {e : Expr} {t u : TT} (h : PT X e u) (i : ∀ σ H Q, t σ H Q → u σ H Q) : PT X e t := ⟨fun pins s σ H Q I q => h.run pins s σ H Q I (i σ H Q q)⟩
theorem PA.imp {X : Cx} {e : List Expr} {t u : TA} (h : PA X e u) (i : ∀ σ H Q, t σ H Q → u σ H Q) : PA X e t := ⟨fun pos pins s σ H Q I q => h.run pos pins s σ H Q I (i σ H Q q)⟩

section
variable {K : PySem.W.Frag} {B Dz Dz' Dz1 Dz2 : Addr → Prop} {F F' F1 F2 : Nat → List Addr} {H H' H1 H2 : Hp} {M M1 M2 : List Nat} {s s' s1 s2 : Sl} {σ : L2.St} {r p : RV} {Q : VK}

/-- what is wanted behind an expression -/
def Cont (K : PySem.W.Frag) (B : Addr → Prop) (σ : L2.St) (M : List Nat) (Dz : Addr → Prop) (F : Nat → List Addr) (H : Hp) (s' : Sl) (r : RV) (Q : VK) : Prop :=
  ∀ (Dz' : Addr → Prop) (F' : Nat → List Addr) (H' : Hp) (v : V) (G : List Addr), Tr M Dz F H Dz' F' H' → Rel K B Dz' F' s' σ H' → RvOk K B H' Dz' F' r v G → (∀ a ∈ G, H a = none ∨ ∃ i ∈ M, a ∈ F i) → Q v H'
theorem Cont.fin {k : Nat} {d : D} (c : Cont K B σ M Dz F H s' (.ow k d) Q) (t : Tr M Dz F H Dz2 F2 H2) (R : Rel K B Dz2 F2 s' σ H2) : Fin K H2 Dz2 k d Q := by
  intro v H' Dz' G same dz new tk rp nd fr
  refine c Dz' F2 H' v G ((t.trans (Tr.grow same dz new)).mono fun i hi => by simpa using hi) (R.grow same dz new tk) ⟨rp, nd, fun a m => ⟨(fr a m).2, fun z => R.bt a z (fr a m).1, fun j mj => ?_⟩⟩ fun a m => t.none_of (fr a m).1
  exact tracked (R.mt j a mj) (fr a m).1
theorem Cont.val {k : Nat} {d : D} {v : V} (c : Cont K B σ M Dz F H s' (.ow k d) Q) (t : Tr M Dz F H Dz2 F2 H2) (R : Rel K B Dz2 F2 s' σ H2) (h : Rp K H2 Dz2 k d v []) : Q v H2 := (c.fin t R).val R.tk h
/-- behind a first part -/
theorem Cont.later (c : Cont K B σ (M1 ++ M2) Dz F H s' r Q) (t : Tr M1 Dz F H Dz1 F1 H1) : Cont K B σ M2 Dz1 F1 H1 s' r Q := fun Dz' F' H' v G u R rv fr => by
  refine c Dz' F' H' v G (t.trans u) R rv fun a m => ?_
  have lift : (∃ i ∈ M1, a ∈ F i) → ∃ i ∈ M1 ++ M2, a ∈ F i := fun ⟨i, hi, z⟩ => ⟨i, List.mem_append_left _ hi, z⟩
  rcases fr a m with z | ⟨i, hi, z⟩
  · exact (t.none_of z).imp id lift
  · rcases t.back z with z | z | z
    · exact .inr ⟨i, List.mem_append_right _ hi, z⟩
    · exact .inl z
    · exact .inr (lift z)
theorem Cont.mono (c : Cont K B σ M Dz F H s' r Q) (h : ∀ i ∈ M1, i ∈ M) : Cont K B σ M1 Dz F H s' r Q := fun Dz' F' H' v G u R rv fr =>
  c Dz' F' H' v G (u.mono h) R rv fun a m => (fr a m).imp id fun ⟨i, hi, z⟩ => ⟨i, h i hi, z⟩

variable (cf : Nat → List Arg → Rs) (io : List Nat)
def tE (K : PySem.W.Frag) (e : E) : TE := fun σ H Q => ∃ (B Dz : Addr → Prop) (F : Nat → List Addr) (s : Sl), Rel K B Dz F s σ H ∧ ∃ r s', evE cf io e s = .ok r s' ∧ Cont K B σ (E.muts e) Dz F H s' r Q
/-- a first part, then the rest -/
theorem tE.next {a : E} {P : VK} (R : Rel K B Dz F s σ H) {r : RV} {s1 : Sl} (e : evE cf io a s = .ok r s1)
    (h : ∀ (Dz1 : Addr → Prop) (F1 : Nat → List Addr) (H1 : Hp) (v : V) (G : List Addr), Tr (E.muts a) Dz F H Dz1 F1 H1 → Rel K B Dz1 F1 s1 σ H1 → RvOk K B H1 Dz1 F1 r v G → (∀ x ∈ G, H x = none ∨ ∃ i ∈ E.muts a, x ∈ F i) → P v H1) : tE cf io K a σ H P :=
  ⟨B, Dz, F, s, R, r, s1, e, h⟩
theorem Ev.bind_ok {α β : Type} {x : Ev α} {f : α → Sl → Ev β} {b : β} {s : Sl} (h : x.bind f = .ok b s) : ∃ a s1, x = .ok a s1 ∧ f a s1 = .ok b s := by
  cases x with
  | ok a s1 => exact ⟨a, s1, rfl, h⟩
  | no => cases h

/-! ### operators by values -/
/-- of two borrowed values, at most one level -/
def rBin (K : PySem.W.Frag) (o : Bop) : R2 := fun v w H Q => ∃ (Dz : Addr → Prop) (k1 k2 : Nat) (x y : D) (G1 G2 : List Addr) (j : Nat) (d : D), k1 ≤ 1 ∧ k2 ≤ 1 ∧ (∀ a, Dz a → H a ≠ none) ∧ Rp K H Dz k1 x v G1 ∧ Rp K H Dz k2 y w G2 ∧ binD o x y = some (j, d) ∧ Fin K H Dz j d Q
def Bop.py : Bop → Operator
  | .add => .Add | .sub => .Sub | .mul => .Mult | .mod => .Mod | .fdiv => .FloorDiv | .pow => .Pow
/-- the items of a list of one level are nobody's -/
theorem Rp.lst1 {k : Nat} {ds : List D} {v : V} {G : List Addr} (hk : k ≤ 1) (h : Rp K H Dz k (.lst ds) v G) : ∃ a vs, v = .ref a ∧ H a = some (.lst vs) ∧ Rps K H Dz 0 ds vs [] := by
  cases h with
  | lz z h r => obtain rfl := r.nil0; exact ⟨_, _, rfl, h, r⟩
  | @lo k a vs ds F h r =>
    obtain rfl : k = 0 := by omega
    obtain rfl := r.nil0
    exact ⟨_, _, rfl, h, r⟩
theorem Rp.lstAny {k : Nat} {ds : List D} {v : V} {G : List Addr} (h : Rp K H Dz k (.lst ds) v G) : ∃ a vs j F, v = .ref a ∧ H a = some (.lst vs) ∧ Rps K H Dz j ds vs F := by
  cases h with
  | lz z h r => exact ⟨_, _, _, _, rfl, h, r⟩
  | lo h r => exact ⟨_, _, _, _, rfl, h, r⟩
theorem Rp.tup1 {k : Nat} {ds : List D} {v : V} {G : List Addr} (hk : k ≤ 1) (h : Rp K H Dz k (.tup ds) v G) : ∃ a vs, v = .ref a ∧ SqU K H a vs ∧ Rps K H Dz 0 ds vs [] := by
  cases h with
  | tup h r =>
    have e : k - 1 = 0 := by omega
    rw [e] at r
    obtain rfl := r.nil0
    exact ⟨_, _, rfl, h, r⟩
theorem Rp.tupAny {k : Nat} {ds : List D} {v : V} {G : List Addr} (h : Rp K H Dz k (.tup ds) v G) : ∃ a vs j F, v = .ref a ∧ SqU K H a vs ∧ Rps K H Dz j ds vs F := by
  cases h with
  | tup h r => exact ⟨_, _, _, _, rfl, h, r⟩
theorem ofString_append (x y : String) : Str.ofString x ++ Str.ofString y = Str.ofString (x ++ y) := by
  show Str.append _ _ = _
  unfold Str.append
  rw [Str.ofString_eq_toList, Str.ofString_eq_toList, Str.ofString_eq_toList]
  simp
theorem ofString_length (x : String) : (Str.ofString x).length = x.length := by
  unfold Str.length
  rw [Str.ofString_eq_toList]
  simp [String.length_toList]
theorem big_size : big = sizeLine := by rw [sizeLine_eq]; rfl
theorem SqL.len {X : Cx} {pins : List (Addr × Obj)} {σ : L2.St} {H : Hp} {s : Shared} (I : Inv X pins σ H s) {a : Addr} {vs : List V} (h : SqL X.K H a vs) : vs.length ≤ big := by
  obtain ⟨_, _, _, z⟩ := I.list h
  rw [big_size]; exact z
theorem Fin.same {k : Nat} {d : D} {Q : VK} (f : Fin K H Dz k d Q) : ∀ {v : V}, (∀ a, Dz a → H a ≠ none) → Rp K H Dz k d v [] → Q v H := fun tk h => f.val tk h
/-- a new list of nobody's items -/
theorem Fin.lst {ds : List D} {vs : List V} {Q : VK} (f : Fin K H Dz 1 (.lst ds) Q) (tk : ∀ a, Dz a → H a ≠ none) (r : Rps K H Dz 0 ds vs []) : ∀ p, H p = none → Q (.ref p) (upd H p (.lst vs)) := fun p hp => by
  have np : ¬ Dz p := fun z => tk p z hp
  refine f _ _ Dz [p] (same_new hp) (fun _ z => z) (fun _ z => .inl z) (fun a z => ?_) (.lo (F := []) upd_same (r.up (same_new hp) fun _ z => z)) (by simp) fun a m => ?_
  · have h := tk a z
    by_cases e : a = p
    · subst e; exact absurd hp h
    · rw [upd_ne e]; exact h
  · obtain rfl : a = p := by simpa using m
    exact ⟨hp, np⟩
theorem Fin.tup {ds : List D} {vs : List V} {Q : VK} (f : Fin K H Dz 0 (.tup ds) Q) (tk : ∀ a, Dz a → H a ≠ none) (r : Rps K H Dz 0 ds vs []) : NewT H vs Q := fun p o hp ho => by
  refine f _ _ Dz [] (same_new hp) (fun _ z => z) (fun _ z => .inl z) (fun a z => ?_) (.tup (.inl ⟨o, ho, upd_same⟩) (r.up (same_new hp) fun _ z => z)) (by simp) fun a m => by cases m
  have h := tk a z
  by_cases e : a = p
  · subst e; exact absurd hp h
  · rw [upd_ne e]; exact h
theorem opr_bin {X : Cx} (o : Bop) : OpR X (binaryOp o.py) (rBin X.K o) := by
  intro pins s σ H v w u1 u2 Q I r1 r2 h
  obtain ⟨Dz, k1, k2, x, y, G1, G2, j, d, hk1, hk2, tk, h1, h2, e, f⟩ := h
  cases o with
  | add =>
    cases x <;> cases y <;> simp only [binD] at e <;> try cases e
    · cases h1; cases h2
      exact op_add pins s σ H _ _ _ _ Q I r1 r2 ⟨_, _, rfl, rfl, f.val tk (.int _)⟩
    · split at e
      · rename_i hl
        cases e
        cases h1; cases h2
        refine op_add_str pins s σ H _ _ _ _ Q I r1 r2 ⟨_, _, rfl, rfl, by rw [ofString_length, ofString_length, ← big_size]; exact hl, ?_⟩
        rw [ofString_append]
        exact f.val tk (.str _ (by rw [String.length_append]; exact hl))
      · cases e
    · split at e
      · rename_i hl
        cases e
        obtain ⟨a, xs, rfl, q1, p1⟩ := h1.tup1 hk1
        obtain ⟨b, ys, rfl, q2, p2⟩ := h2.tup1 hk2
        refine op_catU pins s σ H _ _ _ _ Q I r1 r2 ⟨a, b, xs, ys, rfl, rfl, q1, q2, by rw [← p1.len, ← p2.len, ← big_size]; exact hl, fun z => ?_, fun z => ?_, f.tup tk (p1.app0 p2)⟩
        · subst z
          obtain rfl := List.length_eq_zero_iff.mp p1.len
          exact f.val tk (.tup q2 p2)
        · subst z
          obtain rfl := List.length_eq_zero_iff.mp p2.len
          rw [List.append_nil] at f
          exact f.val tk (.tup q1 p1)
      · cases e
    · split at e
      · rename_i hl
        cases e
        obtain ⟨a, xs, rfl, q1, p1⟩ := h1.lst1 hk1
        obtain ⟨b, ys, rfl, q2, p2⟩ := h2.lst1 hk2
        exact op_cat pins s σ H _ _ _ _ Q I r1 r2 ⟨a, b, xs, ys, rfl, rfl, q1, q2, by rw [← p1.len, ← p2.len, ← big_size]; exact hl, f.lst tk (p1.app0 p2)⟩
      · cases e
  | sub =>
    cases x <;> cases y <;> simp only [binD] at e <;> try cases e
    cases h1; cases h2
    exact op_sub pins s σ H _ _ _ _ Q I r1 r2 ⟨_, _, rfl, rfl, f.val tk (.int _)⟩
  | mul =>
    cases x <;> cases y <;> simp only [binD] at e <;> try cases e
    split at e
    · rename_i hm
      cases e
      cases h1; cases h2
      exact op_mul pins s σ H _ _ _ _ Q I r1 r2 ⟨_, _, rfl, rfl, hm, f.val tk (.int _)⟩
    · cases e
  | mod =>
    cases x <;> cases y <;> simp only [binD] at e <;> try cases e
    split at e
    · rename_i hm
      cases e
      cases h1; cases h2
      exact op_mod pins s σ H _ _ _ _ Q I r1 r2 ⟨_, _, rfl, rfl, hm, f.val tk (.int _)⟩
    · cases e
  | fdiv =>
    cases x <;> cases y <;> simp only [binD] at e <;> try cases e
    split at e
    · rename_i hm
      cases e
      cases h1; cases h2
      refine op_fdivW pins s σ H _ _ _ _ Q I r1 r2 ⟨_, _, rfl, rfl, wide_div (b := 200) hm.1 ?_ (by decide) (by decide), f.val tk (.int _)⟩
      omega
    · cases e
  | pow =>
    cases x <;> cases y <;> simp only [binD] at e <;> try cases e
    split at e
    · rename_i hm
      cases e
      cases h1; cases h2
      exact op_pow pins s σ H _ _ _ _ Q I r1 r2 ⟨_, _, rfl, rfl, ⟨hm.1, by omega, hm.2.2⟩, f.val tk (.int _)⟩
    · cases e
end
end Ti
end

section
namespace Ti
open PySem PySem.Spec PyProof.Rows L2
variable [PWc]

theorem D.pds_map : ∀ xs : List D, D.pds xs = xs.map D.pd
  | [] => rfl
  | x :: xs => by rw [D.pds, D.pds_map xs]; rfl
theorem ofString_inj {x y : String} : Str.ofString x = Str.ofString y ↔ x = y := by
  constructor
  · intro h
    rw [Str.ofString_eq_toList, Str.ofString_eq_toList] at h
    have h1 : (x.toList.map Char.toNat).toArray = (y.toList.map Char.toNat).toArray := congrArg Str.cps h
    have h2 : x.toList.map Char.toNat = y.toList.map Char.toNat := by simpa using h1
    have h3 : x.toList = y.toList := by
      refine List.map_inj_right ?_ |>.mp h2
      intro a b hab
      exact Char.toNat_inj.mp hab
    exact String.toList_inj.mp h3
  · intro h; rw [h]
theorem strOk_of (x : String) : PyData.strOk (Str.ofString x) = true := by
  rw [Str.ofString_eq_toList]
  unfold PyData.strOk
  simp only [List.all_toArray, List.all_map, List.all_eq_true, Function.comp, decide_eq_true_eq]
  intro c _
  have h := c.valid
  simp only [UInt32.isValidChar, Nat.isValidChar] at h
  show c.val.toNat < _
  omega
mutual
theorem D.eqv_pd : ∀ a b : D, a.flat = true → b.flat = true → PyData.eqv a.pd b.pd = D.eqv a b
  | .non, b, _, h => by cases b <;> simp_all [D.pd, PyData.eqv, D.eqv, D.flat]
  | .bl _, b, _, h => by cases b <;> simp_all [D.pd, PyData.eqv, D.eqv, D.flat]
  | .int _, b, _, h => by cases b <;> simp_all [D.pd, PyData.eqv, D.eqv, D.flat]
  | .str x, b, _, h => by
    cases b <;> simp_all [D.pd, PyData.eqv, D.eqv, D.flat]
    rename_i y
    rw [Bool.eq_iff_iff]
    simp [ofString_inj]
  | .tup xs, b, g, h => by
    cases b <;> simp_all [D.pd, PyData.eqv, D.eqv, D.flat]
    exact D.eqvs_pd _ _ g h
  | .lst xs, b, g, h => by
    cases b <;> simp_all [D.pd, PyData.eqv, D.eqv, D.flat]
    exact D.eqvs_pd _ _ g h
  | .dct _, b, g, h => by simp [D.flat] at g
  | .scr _, b, g, h => by simp [D.flat] at g
  | .ins _ _, b, g, h => by simp [D.flat] at g
  | .dcn _, b, g, h => by simp [D.flat] at g
theorem D.eqvs_pd : ∀ a b : List D, D.flats a = true → D.flats b = true → PyData.eqvAll (D.pds a) (D.pds b) = D.eqvs a b
  | [], [], _, _ => by simp [D.pds, PyData.eqvAll, D.eqvs]
  | [], _ :: _, _, _ => by simp [D.pds, PyData.eqvAll, D.eqvs]
  | _ :: _, [], _, _ => by simp [D.pds, PyData.eqvAll, D.eqvs]
  | x :: xs, y :: ys, g, h => by
    simp only [D.flats, Bool.and_eq_true] at g h
    rw [D.pds, D.pds, PyData.eqvAll, D.eqvs, D.eqv_pd x y g.1 h.1, D.eqvs_pd xs ys g.2 h.2]
end
mutual
theorem D.dep_pd : ∀ a : D, a.pd.depth = a.dep
  | .non => by simp [D.pd, PyData.depth, D.dep]
  | .bl _ => by simp [D.pd, PyData.depth, D.dep]
  | .int _ => by simp [D.pd, PyData.depth, D.dep]
  | .str _ => by simp [D.pd, PyData.depth, D.dep]
  | .tup xs => by simp [D.pd, PyData.depth, D.dep, D.deps_pd xs]
  | .lst xs => by simp [D.pd, PyData.depth, D.dep, D.deps_pd xs]
  | .dct _ => by simp [D.pd, PyData.depth, D.dep]
  | .scr _ => by simp [D.pd, PyData.depth, D.dep]
  | .ins _ _ => by simp [D.pd, PyData.depth, D.dep]
  | .dcn _ => by simp [D.pd, PyData.depth, D.dep]
theorem D.deps_pd : ∀ a : List D, PyData.depthAll (D.pds a) = D.deps a
  | [] => by simp [D.pds, PyData.depthAll, D.deps]
  | x :: xs => by simp [D.pds, PyData.depthAll, D.deps, D.dep_pd x, D.deps_pd xs]
end
mutual
theorem D.lay_pd : ∀ a : D, a.pd.canLay0 = true
  | .non => by simp [D.pd, PyData.canLay0]
  | .bl _ => by simp [D.pd, PyData.canLay0]
  | .int _ => by simp [D.pd, PyData.canLay0]
  | .str x => by simp [D.pd, PyData.canLay0, strOk_of x]
  | .tup xs => by simp [D.pd, PyData.canLay0, D.lays_pd xs]
  | .lst xs => by simp [D.pd, PyData.canLay0, D.lays_pd xs]
  | .dct _ => by simp [D.pd, PyData.canLay0]
  | .scr _ => by simp [D.pd, PyData.canLay0]
  | .ins _ _ => by simp [D.pd, PyData.canLay0]
  | .dcn _ => by simp [D.pd, PyData.canLay0]
theorem D.lays_pd : ∀ a : List D, PyData.canLayAll0 (D.pds a) = true
  | [] => by simp [D.pds, PyData.canLayAll0]
  | x :: xs => by simp [D.pds, PyData.canLayAll0, D.lay_pd x, D.lays_pd xs]
end
section
variable {K : PySem.W.Frag} {Dz : Addr → Prop} {H : Hp}
mutual
theorem Rp.dp : ∀ {k : Nat} {d : D} {v : V} {F : List Addr}, Rp K H Dz k d v F → d.flat = true → Dp K H v d.pd
  | _, _, _, _, .non, _ => .non
  | _, _, _, _, .bl b, _ => .bl b
  | _, _, _, _, .int i, _ => .int i
  | _, _, _, _, .str x _, _ => .str _
  | _, _, _, _, .tup h r, e => .tup h.sq (Rps.dp r e)
  | _, _, _, _, .lz z h r, e => .lst (.of h) (Rps.dp r e)
  | _, _, _, _, .scr h r, e => nomatch e
  | _, _, _, _, .lo h r, e => .lst (.of h) (Rps.dp r e)
  | _, _, _, _, .dz z h q r, e => nomatch e
  | _, _, _, _, .do_ h q r, e => nomatch e
  | _, _, _, _, .iz z h q l r, e => nomatch e
  | _, _, _, _, .nz z h q l r, e => nomatch e
  | _, _, _, _, .no_ h q l r, e => nomatch e
  | _, _, _, _, .io_ h q l r, e => nomatch e
theorem Rps.dp : ∀ {k : Nat} {d : List D} {v : List V} {F : List Addr}, Rps K H Dz k d v F → D.flats d = true → DpAll K H v (D.pds d)
  | _, _, _, _, .nil, _ => .nil
  | _, _, _, _, .cons h r, e => .cons (Rp.dp h (by simp only [D.flats, Bool.and_eq_true] at e; exact e.1)) (Rps.dp r (by simp only [D.flats, Bool.and_eq_true] at e; exact e.2))
end
end
def Cop.py : Cop → CmpOp
  | .eq => .Eq | .ne => .NotEq | .lt => .Lt | .le => .LtE | .gt => .Gt | .ge => .GtE | .inn => .In | .nin => .NotIn | .isn => .Is | .nsn => .IsNot
/-- of any two values: a truth -/
def rCmp (K : PySem.W.Frag) (o : Cop) : R2 := fun v w H Q => ∃ (Dz : Addr → Prop) (k1 k2 : Nat) (x y : D) (G1 G2 : List Addr) (b : Bool), Rp K H Dz k1 x v G1 ∧ Rp K H Dz k2 y w G2 ∧ cmpD o x y = some b ∧ Q (.bl b) H
theorem any_pd {x : D} (hx : x.flat = true) : ∀ {ys : List D}, D.flats ys = true → ((D.pds ys).any fun y => PyData.eqv y x.pd) = ys.any fun y => D.eqv y x
  | [], _ => rfl
  | y :: ys, h => by
    simp only [D.flats, Bool.and_eq_true] at h
    rw [D.pds, List.any_cons, List.any_cons, D.eqv_pd y x h.1 hx, any_pd hx h.2]
theorem non_iff {K : PySem.W.Frag} {Dz : Addr → Prop} {H : Hp} {k : Nat} {x : D} {v : V} {G : List Addr} (h : Rp K H Dz k x v G) : decide (v = .non) = (match x with | .non => true | _ => false) := by
  cases h <;> simp
theorem keyOk_of {d : D} (h : keyOk d = true) : ∃ k, keyOf d = some k := by
  cases d <;> first | exact ⟨_, rfl⟩ | cases h
theorem key_eqv {a b : D} {x y : L2.Key} (ha : keyOf a = some x) (hb : keyOf b = some y) : D.eqv a b = decide (x = y) := by
  cases a <;> cases b <;> simp only [keyOf] at ha hb <;> cases ha <;> cases hb
  · simp only [D.eqv]
    rw [Bool.eq_iff_iff]
    simp
  · simp [D.eqv]
  · simp [D.eqv]
  · simp only [D.eqv]
    rw [Bool.eq_iff_iff]
    simp [ofString_inj]
theorem keyV {K : PySem.W.Frag} {Dz : Addr → Prop} {H : Hp} {k : Nat} {x : D} {v : V} {G : List Addr} {y : L2.Key} (h : Rp K H Dz k x v G) (e : keyOf x = some y) : v = kV y := by
  cases h <;> simp only [keyOf] at e <;> cases e <;> rfl
section
variable {K : PySem.W.Frag} {Dz : Addr → Prop} {H : Hp}
/-- what a dict holds at a key -/
theorem look_val {k : Nat} {key : D} {y : L2.Key} (hy : keyOf key = some y) : ∀ {kvs : List (D × D)} {es : List (L2.Key × V)} {F : List Addr}, kvs.map (fun p => keyOf p.1) = es.map (fun p => some p.1) → Rps K H Dz k (kvs.map (·.2)) (es.map (·.2)) F →
    (lookD kvs key = none ∧ valV es y = none) ∨ ∃ d v G, lookD kvs key = some d ∧ valV es y = some v ∧ Rp K H Dz k d v G ∧ G.Sublist F
  | [], es, F, h1, h2 => by
    cases es with
    | nil => exact .inl ⟨rfl, rfl⟩
    | cons _ _ => simp at h1
  | (a, d) :: kvs, es, F, h1, h2 => by
    cases es with
    | nil => simp at h1
    | cons p es =>
      obtain ⟨x, u⟩ := p
      simp only [List.map_cons, List.cons.injEq] at h1
      cases h2 with
      | @cons _ _ _ _ _ F1 G1 r1 r2 =>
        have e := key_eqv h1.1 hy
        by_cases hx : x = y
        · refine .inr ⟨d, u, F1, ?_, ?_, r1, List.sublist_append_left _ _⟩
          · simp [lookD, List.find?, e, hx]
          · simp [valV, List.find?, hx]
        · have l1 : lookD ((a, d) :: kvs) key = lookD kvs key := by simp [lookD, List.find?, e, hx]
          have l2 : valV ((x, u) :: es) y = valV es y := by simp [valV, List.find?, hx]
          rw [l1, l2]
          rcases look_val hy h1.2 r2 with z | ⟨d', v', G', z1, z2, z3, z4⟩
          · exact .inl z
          · exact .inr ⟨d', v', G', z1, z2, z3, z4.trans (List.sublist_append_right _ _)⟩
theorem any_look (kvs : List (D × D)) (key : D) : (kvs.any fun p => D.eqv p.1 key) = (lookD kvs key).isSome := by
  unfold lookD
  rw [Option.isSome_map, Bool.eq_iff_iff, List.find?_isSome, List.any_eq_true]
theorem key_flat {k : Nat} {d : D} {v : V} {G : List Addr} {u : Value} (hk : keyOk d = true) (h : Rp K H Dz k d v G) (r : RelV v u) : PyProof.V.Flat u d.pd := by
  cases h with
  | int i =>
    obtain ⟨t, rfl⟩ := r
    exact PyProof.V.Flat.int _ _
  | str x hx =>
    obtain ⟨t, rfl⟩ := r
    exact PyProof.V.Flat.str _ _
  | _ => cases hk
theorem beq_nat (a b : Nat) : (a == b) = decide (a = b) := by
  by_cases h : a = b <;> simp [h]
theorem key_flatD {d : D} (h : keyOk d = true) : d.flat = true := by
  cases d <;> first | rfl | cases h
theorem keq_hits {A : Around} {s : Shared} {j2 : Nat} {kvs2 : List (D × D)} {es2 : List (L2.Key × V)} {F2 : List Addr} {vs2 : List (L2.Key × Value)} (c2 : kvs2.map (fun p => keyOf p.1) = es2.map (fun p => some p.1)) (r2 : Rps K H Dz j2 (kvs2.map (·.2)) (es2.map (·.2)) F2) (k2 : KV es2 vs2) (o2 : ∀ p ∈ kvs2, keyOk p.2 = true) {j : Nat} :
    ∀ {kvs : List (D × D)} {es : List (L2.Key × V)} {F : List Addr} {vs : List (L2.Key × Value)}, kvs.map (fun p => keyOf p.1) = es.map (fun p => some p.1) → Rps K H Dz j (kvs.map (·.2)) (es.map (·.2)) F → KV es vs → (∀ p ∈ kvs, keyOk p.2 = true) →
      PySem.W.KeqHits A s vs2 vs (kvs.all fun p => match (kvs2.find? fun q => D.eqv q.1 p.1).map (·.2) with
        | some v => D.eqv p.2 v
        | none => false)
  | [], es, F, vs, h1, h2, h3, _ => by
    cases es with
    | cons _ _ => simp at h1
    | nil =>
      unfold KV at h3
      cases h3
      exact .nil
  | (a, d) :: kvs, es, F, vs, h1, h2, h3, h4 => by
    cases es with
    | nil => simp at h1
    | cons p es =>
      obtain ⟨x, u⟩ := p
      simp only [List.map_cons, List.cons.injEq] at h1
      unfold KV at h3
      cases h3 with
      | @cons _ q _ vs g t =>
        obtain ⟨y, w⟩ := q
        obtain ⟨g1, g2⟩ := g
        have g1 : x = y := g1
        subst g1
        have g2 : RelV u w := g2
        cases h2 with
        | @cons _ _ _ _ _ F1 G1 q1 q2 =>
          have ih := keq_hits (A := A) (s := s) c2 r2 k2 o2 h1.2 q2 t fun p m => h4 p (List.mem_cons_of_mem _ m)
          have hv := k2.val x
          rw [List.all_cons]
          rcases look_val h1.1 c2 r2 with ⟨z1, z2⟩ | ⟨d', v', G', z1, z2, z3, _⟩
          · rw [z2] at hv
            have e : (kvs2.find? fun q => D.eqv q.1 a).map (·.2) = none := z1
            simp only [e, Bool.false_and]
            cases q : valueAt vs2 x with
            | some _ => rw [q] at hv; exact hv.elim
            | none => exact .miss q
          · rw [z2] at hv
            have e : (kvs2.find? fun q => D.eqv q.1 a).map (·.2) = some d' := z1
            simp only [e]
            cases q : valueAt vs2 x with
            | none => rw [q] at hv; exact hv.elim
            | some w' =>
              rw [q] at hv
              have hv : RelV v' w' := hv
              have k1 : keyOk d = true := h4 (a, d) List.mem_cons_self
              have k3 : keyOk d' = true := by
                unfold lookD at z1
                rw [Option.map_eq_some_iff] at z1
                obtain ⟨p, hp, rfl⟩ := z1
                exact o2 p (List.mem_of_find?_eq_some hp)
              have f := PySem.W.keq_flat (A := A) (s := s) (key_flat k1 q1 g2) (key_flat k3 z3 hv)
              rw [D.eqv_pd d d' (key_flatD k1) (key_flatD k3)] at f
              exact .hit q f ih
theorem Rp.dct {k : Nat} {kvs : List (D × D)} {v : V} {G : List Addr} (h : Rp K H Dz k (.dct kvs) v G) : ∃ (a : Addr) (es : List (L2.Key × V)) (j : Nat) (F : List Addr), v = .ref a ∧ H a = some (.dK es) ∧ KeyL kvs es ∧ Rps K H Dz j (kvs.map (·.2)) (es.map (·.2)) F ∧ j = k - 1 ∧ F.Sublist G := by
  cases h with
  | dz z h e r => exact ⟨_, _, _, _, rfl, h, e, r, rfl, List.Sublist.refl _⟩
  | do_ h e r => exact ⟨_, _, _, _, rfl, h, e, r, rfl, List.sublist_cons_self _ _⟩
theorem Rp.insI {k : Nat} {c : String} {fs : List (String × D)} {v : V} {G : List Addr} (h : Rp K H Dz k (.ins c fs) v G) : ∃ (a C dx : Addr) (es : List (Str × V)) (j : Nat) (F : List Addr), v = .ref a ∧ H a = some (.ins C dx es) ∧ ClsAt K c C ∧ FldL fs es ∧ Rps K H Dz j (fs.map (·.2)) (es.map (·.2)) F ∧ j = k - 1 ∧ F.Sublist G := by
  cases h with
  | iz z h e l r => exact ⟨_, _, _, _, _, _, rfl, h, e, l, r, rfl, List.Sublist.refl _⟩
  | io_ h e l r => exact ⟨_, _, _, _, _, _, rfl, h, e, l, r, rfl, List.sublist_cons_self _ _⟩
theorem ClsAt.eq {c : String} {C C' : Addr} (h : ClsAt K c C) (h' : ClsAt K c C') : C = C' := by
  unfold ClsAt at h h'
  rw [h] at h'
  injection h' with h'
  injection h' with h'
  injection h'
theorem Rp.dict_in {k : Nat} {kvs : List (D × D)} {v : V} {G : List Addr} (h : Rp K H Dz k (.dct kvs) v G) {key : D} (hk : keyOk key = true) : ∃ a es ky, v = .ref a ∧ H a = some (.dK es) ∧ keyOf key = some ky ∧ (valV es ky).isSome = (kvs.any fun p => D.eqv p.1 key) := by
  obtain ⟨ky, hy⟩ := keyOk_of hk
  obtain ⟨a, es, j, F, e1, e2, e4, e5, _, _⟩ := h.dct
  refine ⟨a, es, ky, e1, e2, hy, ?_⟩
  rw [any_look]
  rcases look_val hy e4.1 e5 with ⟨z1, z2⟩ | ⟨d, u, _, z1, z2, _⟩ <;> rw [z1, z2] <;> rfl
end
theorem opr_cmp {X : Cx} (hu : X.A.units + 100 < cLine) (o : Cop) : OpR X (compareOp o.py) (rCmp X.K o) := by
  intro pins s σ H v w u1 u2 Q I r1 r2 h
  obtain ⟨Dz, k1, k2, x, y, G1, G2, b, h1, h2, e, q⟩ := h
  have inn : ∀ (b : Bool), inD x y = some b → wpAny (model X.prog X.w) X.A (compareOp .In u1 u2) (fun u s' => ∃ s'' , s'' = s' ∧ u = .bool b ∧ L2.Inv X pins σ H s') X.xe s ∧ wpAny (model X.prog X.w) X.A (compareOp .NotIn u1 u2) (fun u s' => ∃ s'', s'' = s' ∧ u = .bool (!b) ∧ L2.Inv X pins σ H s') X.xe s := by
    intro b hb
    cases y with
    | lst ys =>
      simp only [inD] at hb
      split at hb
      · rename_i hc
        cases hb
        obtain ⟨as, q1⟩ := Dp.reads I _ v u1 (h1.dp hc.1) r1
        obtain ⟨bs, q2⟩ := Dp.reads I _ w u2 (h2.dp (show D.flat (.lst ys) = true from hc.2.1)) r2
        have hroom : X.A.units + 1 + min (PyData.depthAll (D.pds ys)) x.pd.depth < cLine := by
          rw [D.deps_pd, D.dep_pd, Nat.min_comm]; omega
        refine ⟨SeqAt.in_list_reads (xs := D.pds ys) q2 q1 (D.lays_pd _) (D.lay_pd _) hroom ⟨s, rfl, ?_, I⟩, SeqAt.notIn_list_reads (xs := D.pds ys) q2 q1 (D.lays_pd _) (D.lay_pd _) hroom ⟨s, rfl, ?_, I⟩⟩
        · rw [any_pd hc.1 hc.2.1]
        · rw [any_pd hc.1 hc.2.1]
      · cases hb
    | tup ys =>
      simp only [inD] at hb
      split at hb
      · rename_i hc
        cases hb
        obtain ⟨as, q1⟩ := Dp.reads I _ v u1 (h1.dp hc.1) r1
        obtain ⟨bs, q2⟩ := Dp.reads I _ w u2 (h2.dp (show D.flat (.tup ys) = true from hc.2.1)) r2
        have hroom : X.A.units + 1 + min (PyData.depthAll (D.pds ys)) x.pd.depth < cLine := by
          rw [D.deps_pd, D.dep_pd, Nat.min_comm]; omega
        refine ⟨SeqAt.in_tuple_reads (xs := D.pds ys) q2 q1 (D.lays_pd _) (D.lay_pd _) hroom ⟨s, rfl, ?_, I⟩, SeqAt.notIn_tuple_reads (xs := D.pds ys) q2 q1 (D.lays_pd _) (D.lay_pd _) hroom ⟨s, rfl, ?_, I⟩⟩
        · rw [any_pd hc.1 hc.2.1]
        · rw [any_pd hc.1 hc.2.1]
      · cases hb
    | str y' =>
      cases x <;> simp only [inD] at hb <;> try cases hb
      rename_i z
      cases hz : z.toList with
      | nil => rw [hz] at hb; cases hb
      | cons c t =>
        cases t with
        | cons _ _ => rw [hz] at hb; cases hb
        | nil =>
          rw [hz] at hb
          cases hb
          cases h1; cases h2
          have ez : Str.ofString z = ⟨#[c.toNat]⟩ := by rw [Str.ofString_eq_toList, hz]; rfl
          have em : decide (c.toNat ∈ (Str.ofString y').cps.toList) = y'.toList.contains c := by
            rw [Str.ofString_eq_toList, Bool.eq_iff_iff]
            simp only [decide_eq_true_eq, List.contains_iff_mem, List.mem_map]
            constructor
            · rintro ⟨c', h', e'⟩
              rw [← Char.toNat_inj.mp e']; exact h'
            · intro h'; exact ⟨c, h', rfl⟩
          have n1 : ∀ {u : Value} {s' : Shared} {b' : Bool}, EP X pins σ (fun v' H' => v' = V.bl b' ∧ H' = H) u s' → ∃ s'', s'' = s' ∧ u = .bool b' ∧ L2.Inv X pins σ H s' := by
            rintro u s' b' ⟨v', H', I', r', rfl, rfl⟩
            exact ⟨s', rfl, r', I'⟩
          refine ⟨thn (op_in_sign pins s σ H _ _ _ _ (fun v' H' => v' = V.bl (y'.toList.contains c) ∧ H' = H) I r1 r2 ⟨c.toNat, _, by rw [ez], rfl, by rw [em]; exact ⟨rfl, rfl⟩⟩) fun _ _ h => n1 h, thn (op_notIn_sign pins s σ H _ _ _ _ (fun v' H' => v' = V.bl (!y'.toList.contains c) ∧ H' = H) I r1 r2 ⟨c.toNat, _, by rw [ez], rfl, by rw [em]; exact ⟨rfl, rfl⟩⟩) fun _ _ h => n1 h⟩
    | dct kvs =>
      simp only [inD] at hb
      split at hb
      · rename_i hk
        cases hb
        obtain ⟨a, es, ky, rfl, e1, e2, e3⟩ := h2.dict_in (key := x) hk
        have rw1 : RelV (kV ky) u1 := by
          have := e2
          rw [← (keyV h1 this)]; exact r1
        cases r2
        rw [← e3]
        exact ⟨d_in (by omega) I (DGet.k e1) rw1 fun s' I' => ⟨s', rfl, rfl, I'⟩, d_notIn (by omega) I (DGet.k e1) rw1 fun s' I' => ⟨s', rfl, rfl, I'⟩⟩
      · cases hb
    | _ => simp only [inD] at hb; cases hb
  have done : ∀ {u : Value} {s' : Shared} {b' : Bool}, b' = b → (∃ s'', s'' = s' ∧ u = .bool b' ∧ L2.Inv X pins σ H s') → EP X pins σ Q u s' := by
    rintro u s' b' rfl ⟨_, rfl, rfl, I'⟩
    exact ⟨.bl _, H, I', rfl, q⟩
  cases o with
  | eq =>
    simp only [cmpD] at e
    split at e
    · rename_i hc
      cases e
      obtain ⟨as, q1⟩ := Dp.reads I _ v u1 (h1.dp hc.1) r1
      obtain ⟨bs, q2⟩ := Dp.reads I _ w u2 (h2.dp hc.2.1) r2
      refine SeqAt.compareEq_reads q1 q2 (D.lay_pd _) (D.lay_pd _) (by rw [D.dep_pd, D.dep_pd]; have := hc.2.2; omega) ?_
      rw [D.eqv_pd _ _ hc.1 hc.2.1]
      exact ⟨.bl _, H, I, rfl, q⟩
    · cases x <;> cases y <;> simp only [eqDc] at e <;> try cases e
      split at e
      · rename_i hall
        cases e
        simp only [Bool.and_eq_true, List.all_eq_true] at hall
        obtain ⟨a1, es1, j1, F1, rfl, e1, kl1, rv1, _, _⟩ := h1.dct
        obtain ⟨a2, es2, j2, F2, rfl, e2, kl2, rv2, _, _⟩ := h2.dct
        cases r1; cases r2
        obtain ⟨_, hd1, vs1, k1, d1⟩ := dk_of I.hok e1
        obtain ⟨_, hd2, vs2, k2, d2⟩ := dk_of I.hok e2
        have hl1 := congrArg List.length kl1.1
        have hl2 := congrArg List.length kl2.1
        rw [List.length_map, List.length_map] at hl1 hl2
        refine PySem.W.keq_eq hd1 hd2 d1 d2 (by omega) (fun _ => keq_hits kl2.1 rv2 k2 (fun p m => (hall.2 p m).2) kl1.1 rv1 k1 fun p m => (hall.1 p m).2) ?_
        rw [← k1.length, ← k2.length, ← hl1, ← hl2, beq_nat]
        exact ⟨.bl _, H, I, rfl, q⟩
      · cases e
  | ne =>
    simp only [cmpD] at e
    split at e
    · rename_i hc
      cases e
      obtain ⟨as, q1⟩ := Dp.reads I _ v u1 (h1.dp hc.1) r1
      obtain ⟨bs, q2⟩ := Dp.reads I _ w u2 (h2.dp hc.2.1) r2
      refine SeqAt.compareNe_reads q1 q2 (D.lay_pd _) (D.lay_pd _) (by rw [D.dep_pd, D.dep_pd]; have := hc.2.2; omega) ?_
      rw [D.eqv_pd _ _ hc.1 hc.2.1]
      exact ⟨.bl _, H, I, rfl, q⟩
    · rw [Option.map_eq_some_iff] at e
      obtain ⟨b0, e, rfl⟩ := e
      cases x <;> cases y <;> simp only [eqDc] at e <;> try cases e
      split at e
      · rename_i hall
        cases e
        simp only [Bool.and_eq_true, List.all_eq_true] at hall
        obtain ⟨a1, es1, j1, F1, rfl, e1, kl1, rv1, _, _⟩ := h1.dct
        obtain ⟨a2, es2, j2, F2, rfl, e2, kl2, rv2, _, _⟩ := h2.dct
        cases r1; cases r2
        obtain ⟨_, hd1, vs1, k1, d1⟩ := dk_of I.hok e1
        obtain ⟨_, hd2, vs2, k2, d2⟩ := dk_of I.hok e2
        have hl1 := congrArg List.length kl1.1
        have hl2 := congrArg List.length kl2.1
        rw [List.length_map, List.length_map] at hl1 hl2
        refine PySem.W.keq_ne hd1 hd2 d1 d2 (by omega) (fun _ => keq_hits kl2.1 rv2 k2 (fun p m => (hall.2 p m).2) kl1.1 rv1 k1 fun p m => (hall.1 p m).2) ?_
        rw [← k1.length, ← k2.length, ← hl1, ← hl2, beq_nat]
        exact ⟨.bl _, H, I, rfl, q⟩
      · cases e
  | lt =>
    cases x <;> cases y <;> simp only [cmpD] at e <;> cases e
    · cases h1; cases h2
      exact op_lt pins s σ H _ _ _ _ Q I r1 r2 ⟨_, _, rfl, rfl, q⟩
    · cases h1; cases h2
      refine op_lt_str pins s σ H _ _ _ _ Q I r1 r2 ⟨_, _, rfl, rfl, ?_⟩
      rw [Str.ofString_eq_toList, Str.ofString_eq_toList]
      exact q
  | le =>
    cases x <;> cases y <;> simp only [cmpD] at e <;> cases e
    cases h1; cases h2
    exact op_le pins s σ H _ _ _ _ Q I r1 r2 ⟨_, _, rfl, rfl, q⟩
  | gt =>
    cases x <;> cases y <;> simp only [cmpD] at e <;> cases e
    cases h1; cases h2
    exact op_gt pins s σ H _ _ _ _ Q I r1 r2 ⟨_, _, rfl, rfl, q⟩
  | ge =>
    cases x <;> cases y <;> simp only [cmpD] at e <;> cases e
    · cases h1; cases h2
      exact op_ge pins s σ H _ _ _ _ Q I r1 r2 ⟨_, _, rfl, rfl, q⟩
    · cases h1; cases h2
      refine op_ge_str pins s σ H _ _ _ _ Q I r1 r2 ⟨_, _, rfl, rfl, ?_⟩
      rw [Str.ofString_eq_toList, Str.ofString_eq_toList]
      exact q
  | inn =>
    simp only [cmpD] at e
    exact thn (inn b e).1 fun _ _ h => done rfl h
  | nin =>
    simp only [cmpD, Option.map_eq_some_iff] at e
    obtain ⟨b', e, e'⟩ := e
    exact thn (inn b' e).2 fun _ _ h => done e' h
  | isn =>
    cases y <;> simp only [cmpD] at e <;> try cases e
    cases h2
    refine op_isN pins s σ H _ _ _ _ Q I r1 r2 ⟨rfl, ?_⟩
    rw [non_iff h1]
    cases x <;> exact q
  | nsn =>
    cases y <;> simp only [cmpD] at e <;> try cases e
    cases h2
    refine op_notN pins s σ H _ _ _ _ Q I r1 r2 ⟨rfl, ?_⟩
    rw [non_iff h1]
    cases x <;> exact q
end Ti
end

section
namespace Ti
open PySem PySem.Spec PyProof.Rows L2
variable [PWc]

section
variable {K : PySem.W.Frag} {B Dz Dz' Dz1 Dz2 : Addr → Prop} {F F' F1 F2 : Nat → List Addr} {H H' H1 H2 : Hp} {M M1 M2 : List Nat} {s s' s1 s2 : Sl} {σ : L2.St} {r p : RV} {Q : VK}
variable {cf : Nat → List Arg → Rs} {io : List Nat}

theorem two {a b : E} {f : RV → RV → Sl → Ev RV} {P : V → V → Hp → Prop} (R : Rel K B Dz F s σ H)
    (h : ((evE cf io a s).bind fun r s1 => if clash r.src (E.muts b) then .no else (evE cf io b s1).bind fun p s2 => f r p s2) = .ok r s')
    (hP : ∀ (ra rb : RV) (s2 : Sl) (Dz2 : Addr → Prop) (F2 : Nat → List Addr) (H2 : Hp) (v w : V) (G1 G2 : List Addr), Tr (E.muts a ++ E.muts b) Dz F H Dz2 F2 H2 → Rel K B Dz2 F2 s2 σ H2 → RvOk K B H2 Dz2 F2 ra v G1 → RvOk K B H2 Dz2 F2 rb w G2 →
      (∀ x ∈ G1, H x = none ∨ ∃ i ∈ E.muts a ++ E.muts b, x ∈ F i) → (∀ x ∈ G2, H x = none ∨ ∃ i ∈ E.muts a ++ E.muts b, x ∈ F i) → (∀ x ∈ G1, x ∉ G2) → f ra rb s2 = .ok r s' → P v w H2) :
    tE cf io K a σ H fun v H1 => tE cf io K b σ H1 fun w H2 => P v w H2 := by
  obtain ⟨ra, s1, ea, h⟩ := Ev.bind_ok h
  split at h
  · cases h
  rename_i hc
  obtain ⟨rb, s2, eb, h⟩ := Ev.bind_ok h
  refine tE.next cf io R ea fun Dz1 F1 H1 v G1 t1 R1 o1 g1 => ?_
  refine tE.next cf io R1 eb fun Dz2 F2 H2 w G2 t2 R2 o2 g2 => ?_
  have lift1 : ∀ {x : Addr}, (∃ i ∈ E.muts a, x ∈ F i) → ∃ i ∈ E.muts a ++ E.muts b, x ∈ F i := fun ⟨i, hi, z⟩ => ⟨i, List.mem_append_left _ hi, z⟩
  refine hP ra rb s2 Dz2 F2 H2 v w G1 G2 (t1.trans t2) R2 (o1.tr R1 t2 (by simpa using hc)) o2 (fun x m => (g1 x m).imp id lift1) (fun x m => ?_) (fun x m1 m2 => ?_) h
  · rcases g2 x m with z | ⟨i, hi, z⟩
    · exact (t1.none_of z).imp id lift1
    · rcases t1.back z with z | z | z
      · exact .inr ⟨i, List.mem_append_right _ hi, z⟩
      · exact .inl z
      · exact .inr (lift1 z)
  · cases ra with
    | bo src k d => rw [o1.1] at m1; cases m1
    | ow k d =>
      rcases g2 x m2 with z | ⟨i, hi, z⟩
      · exact tracked (o1.1.mut x m1) z
      · exact (o1.2.2 x m1).2.2 i z
theorem sh_rp {r : RV} {v : V} {G : List Addr} {d : D} (h : RvOk K B H Dz F r v G) (e : r.sh = some d) : ∃ k G', k ≤ 1 ∧ Rp K H Dz k d v G' := by
  unfold RV.sh at e
  split at e
  · rename_i hk
    cases e
    obtain ⟨G', h'⟩ := h.rp
    exact ⟨_, G', hk, h'⟩
  · cases e
theorem rk_ok {o : Option (Nat × D)} (h : Ev.rk o s = .ok r s') : ∃ k d, o = some (k, d) ∧ r = .ow k d ∧ s' = s := by
  cases o with
  | none => cases h
  | some p => obtain ⟨k, d⟩ := p; cases h; exact ⟨k, d, rfl, rfl, rfl⟩
theorem r0_ok {o : Option D} (h : Ev.r0 o s = .ok r s') : ∃ d, o = some d ∧ r = .ow 0 d ∧ s' = s := by
  cases o with
  | none => cases h
  | some d => cases h; exact ⟨d, rfl, rfl, rfl⟩
theorem bCond_ok {α : Type} {g : Bool → Ev α} {a : α} (h : bCond r s g = .ok a s') : ∃ b, r.d = .bl b ∧ g b = .ok a s' := by
  unfold bCond at h
  split at h
  · exact ⟨_, by assumption, h⟩
  · cases h
theorem RvOk.bl {v : V} {G : List Addr} {b : Bool} (h : RvOk K B H Dz F r v G) (e : r.d = .bl b) : v = .bl b := by
  obtain ⟨G', h'⟩ := h.rp
  rw [e] at h'
  generalize r.k = k at h'
  cases h'; rfl
theorem RvOk.int {v : V} {G : List Addr} {b : Int} (h : RvOk K B H Dz F r v G) (e : r.d = .int b) : v = .int b := by
  obtain ⟨G', h'⟩ := h.rp
  rw [e] at h'
  generalize r.k = k at h'
  cases h'; rfl
end

/-- an expression and its written form -/
structure Good (cf : Nat → List Arg → Rs) (io : List Nat) (X : Cx) (e : E) (pe : Expr) : Prop where
  val : PE X pe (tE cf io X.K e)
  tst : PT X pe (tB (tE cf io X.K e))
def notStar : Expr → Bool
  | .Starred .. => false
  | _ => true
/-- a test is an expression's truth -/
def plainTest : Expr → Bool
  | .UnaryOp .Not .. => false
  | .BoolOp .. => false
  | .IfExp .. => false
  | .Compare .. => false
  | _ => true
theorem plain_isTrue {e : Expr} (h : plainTest e = true) (env : Env) (whole : Sem Value) : isTrue e env whole = (do let v ← whole; standAt e.pos; holding [v] (truthy v)) := by
  cases e <;> first
    | rfl
    | (exfalso; revert h; simp [plainTest]; done)
    | (rename_i op x pos; cases op <;> first | rfl | (exfalso; revert h; simp [plainTest]; done))
variable {cf : Nat → List Arg → Rs} {io : List Nat} {X : Cx}
theorem Good.of {e : E} {pe : Expr} (h : PE X pe (tE cf io X.K e)) (p : plainTest pe = true) : Good cf io X e pe := ⟨h, pt_val h fun w => plain_isTrue p X.env w⟩
theorem star_cons {e : Expr} (h : notStar e = true) (es : List Expr) (env : Env) : starEach (e :: es) env = (false, eval e env) :: starEach es env := by
  cases e <;> first | rfl | (exfalso; revert h; simp [notStar]; done)
theorem star_any {pos : Pos} {env : Env} : ∀ {es : List Expr}, es.all notStar = true → (backTo pos (starEach es env)).any (·.1) = false
  | [], _ => rfl
  | e :: es, h => by
    simp only [List.all_cons, Bool.and_eq_true] at h
    rw [star_cons h.1]
    show (false || (backTo pos (starEach es env)).any (·.1)) = false
    rw [star_any h.2]; rfl

theorem tCmp_wrap {ea eb : E} {o : Cop} : ∀ σ H Q, tE cf io X.K (.cmp o ea eb) σ H Q → tOp (rCmp X.K o) (tE cf io X.K ea) (tE cf io X.K eb) σ H Q := by
  rintro σ H Q ⟨B, Dz, F, s, R, r, s', h, c⟩
  rw [evE] at h
  refine two R h fun ra rb s2 Dz2 F2 H2 v w G1 G2 t R2 o1 o2 _ _ _ h => ?_
  obtain ⟨d, e, rfl, rfl⟩ := r0_ok h
  rw [Option.map_eq_some_iff] at e
  obtain ⟨b, e, rfl⟩ := e
  obtain ⟨_, p1⟩ := o1.rp
  obtain ⟨_, p2⟩ := o2.rp
  exact ⟨Dz2, _, _, _, _, _, _, b, p1, p2, e, c.val t R2 (.bl b)⟩
theorem good_cmp {ea eb : E} {a b : Expr} {o : Cop} {pos : Pos} (hu : X.A.units + 100 < cLine) (ha : Good cf io X ea a) (hb : Good cf io X eb b) (hm : behindInMarks o.py b = false) : Good cf io X (.cmp o ea eb) (.Compare a [o.py] [b] pos) :=
  ⟨PE.imp (pe_cmpR (opr_cmp hu o) ha.val hb.val hm) tCmp_wrap, PT.imp (pt_cmpR (opr_cmp hu o) ha.val hb.val hm) fun σ H Q h => tCmp_wrap σ H _ h⟩
theorem good_bin {ea eb : E} {a b : Expr} {o : Bop} {pos : Pos} (ha : Good cf io X ea a) (hb : Good cf io X eb b) : Good cf io X (.bin o ea eb) (.BinOp a o.py b pos) := by
  refine .of (PE.imp (pe_op (opr_bin o) ha.val hb.val) ?_) rfl
  rintro σ H Q ⟨B, Dz, F, s, R, r, s', h, c⟩
  rw [evE] at h
  refine two R h fun ra rb s2 Dz2 F2 H2 v w G1 G2 t R2 o1 o2 _ _ _ h => ?_
  split at h
  · rename_i x y ex ey
    obtain ⟨k, d, e, rfl, rfl⟩ := rk_ok h
    obtain ⟨k1, G1', hk1, p1⟩ := sh_rp o1 ex
    obtain ⟨k2, G2', hk2, p2⟩ := sh_rp o2 ey
    exact ⟨Dz2, k1, k2, x, y, G1', G2', k, d, hk1, hk2, R2.tk, p1, p2, e, c.fin t R2⟩
  · cases h
theorem rel_refl {K : PySem.W.Frag} {σ : L2.St} {M : List Nat} {B Dz : Addr → Prop} {F : Nat → List Addr} {H : Hp} {s : Sl} {k : Nat} {d : D} {Q : VK} (c : Cont K B σ M Dz F H s (.ow k d) Q) (R : Rel K B Dz F s σ H) {v : V} (h : Rp K H Dz k d v []) : Q v H :=
  c.val (Tr.refl M) R h
theorem good_con {d : D} {v : V} {pe : Expr} (h : PE X pe (tC v)) (p : plainTest pe = true) (hv : ∀ H Dz, Rp X.K H Dz 0 d v []) : Good cf io X (.con d) pe := by
  refine .of (PE.imp h ?_) p
  rintro σ H Q ⟨B, Dz, F, s, R, r, s', h, c⟩
  rw [evE] at h
  cases h
  exact rel_refl c R (hv H Dz)
theorem good_gl {x : String} {d : D} {v : V} {pe : Expr} (h : PE X pe (tC v)) (p : plainTest pe = true) (hv : ∀ H Dz, Rp X.K H Dz 0 d v []) : Good cf io X (.gl x d) pe := by
  refine .of (PE.imp h ?_) p
  rintro σ H Q ⟨B, Dz, F, s, R, r, s', h, c⟩
  rw [evE] at h
  cases h
  exact rel_refl c R (hv H Dz)
theorem good_var {i : Nat} {x : Str} {pos : Pos} (hN : X.N[i]? = some x) (hv : Vis X.env.scope x) (hd : (x == ("__debug__" : Str)) = false) (hcd : (x == ("__classdict__" : Str)) = false) : Good cf io X (.var i) (.Name x pos) := by
  refine .of (PE.imp (pe_var hN hv hd hcd) ?_) rfl
  rintro σ H Q ⟨B, Dz, F, s, R, r, s', h, c⟩
  rw [evE] at h
  unfold Ev.of at h
  split at h
  · rename_i r0 e
    cases h
    cases hs : s[i]? with
    | none => rw [hs] at e; cases e
    | some sl =>
      rw [hs] at e
      have ok := R.sl i sl hs
      cases sl with
      | no => cases e
      | bo k d =>
        obtain ⟨_, v, G, h2, h3, h4⟩ := ok
        refine ⟨v, h2, ?_⟩
        simp only [Option.getD_some, Slot.rv] at e
        split at e
        · rename_i hk
          cases e; subst hk
          obtain rfl := h3.nil0
          exact rel_refl c R h3
        · cases e
          exact c Dz F H v [] (Tr.refl _) R ⟨rfl, G, h3, fun a m => .inl (h4 a m)⟩ fun _ m => by cases m
      | ow k d =>
        obtain ⟨v, h2, h3⟩ := ok
        refine ⟨v, h2, ?_⟩
        simp only [Option.getD_some, Slot.rv] at e
        split at e
        · rename_i hk
          cases e; subst hk
          obtain e0 := h3.nil0
          rw [e0] at h3
          exact rel_refl c R h3
        · cases e
          exact c Dz F H v [] (Tr.refl _) R ⟨rfl, F i, h3, fun a m => .inr ⟨i, by simp, m⟩⟩ fun _ m => by cases m
  · cases h
theorem good_mv {i : Nat} {x : Str} {pos : Pos} (hN : X.N[i]? = some x) (hv : Vis X.env.scope x) (hd : (x == ("__debug__" : Str)) = false) (hcd : (x == ("__classdict__" : Str)) = false) : Good cf io X (.mv i) (.Name x pos) := by
  refine .of (PE.imp (pe_var hN hv hd hcd) ?_) rfl
  rintro σ H Q ⟨B, Dz, F, s, R, r, s', h, c⟩
  rw [evE] at h
  split at h
  · rename_i k d hs
    split at h
    · cases h
    cases h
    obtain ⟨v, h2, h3⟩ := R.sl i _ hs
    have hi : i < s.length := (List.getElem?_eq_some_iff.mp hs).1
    refine ⟨v, h2, c Dz (fset F i []) H v (F i) ⟨fun _ z => z, fun _ z => .inl z, fun _ _ e _ => e, fun _ _ e _ => e, fun j hj => fset_ne fun z => hj (by simp [E.muts, z]), fun j a hj m => ?_⟩
      (R.put hi rfl (fun _ _ => rfl) fset_same .nil fun _ m => by cases m) ⟨h3, R.nd i, fun a m => ⟨R.dz i a m, R.bz i a m, fun j mj => ?_⟩⟩ fun a m => .inr ⟨i, by simp [E.muts], m⟩⟩
    · obtain rfl : j = i := by simpa [E.muts] using hj
      rw [fset_same] at m; cases m
    · rcases fset_in mj with ⟨_, z⟩ | ⟨h, z⟩
      · cases z
      · exact h (R.dj i j a m z).symm
  · cases h
theorem good_not {ea : E} {a : Expr} {pos : Pos} (ha : Good cf io X ea a) : Good cf io X (.not ea) (.UnaryOp .Not a pos) := by
  have key : ∀ σ H (Q : V → Hp → Prop), tE cf io X.K (.not ea) σ H Q → tE cf io X.K ea σ H fun x H1 => ∃ c, x = .bl c ∧ Q (.bl (!c)) H1 := by
    rintro σ H Q ⟨B, Dz, F, s, R, r, s', h, c⟩
    rw [evE] at h
    obtain ⟨ra, s1, ea', h⟩ := Ev.bind_ok h
    obtain ⟨b, eb, h⟩ := bCond_ok h
    cases h
    refine tE.next cf io R ea' fun Dz1 F1 H1 v G1 t1 R1 o1 g1 => ⟨b, o1.bl eb, ?_⟩
    exact c.val t1 R1 (.bl _)
  refine ⟨PE.imp (pe_not ha.val) key, PT.imp (pt_not ha.tst) fun σ H Q h => ?_⟩
  show tB (tE cf io X.K ea) σ H fun c H1 => Q (!c) H1
  obtain ⟨B, Dz, F, s, R, r, s', e, k⟩ := key σ H _ h
  refine ⟨B, Dz, F, s, R, r, s', e, fun Dz' F' H' v G t R' o g => ?_⟩
  obtain ⟨c, rfl, c', e', q⟩ := k Dz' F' H' v G t R' o g
  cases e'
  exact ⟨c, rfl, q⟩
theorem good_neg {ea : E} {a : Expr} {pos : Pos} (ha : Good cf io X ea a) : Good cf io X (.neg ea) (.UnaryOp .USub a pos) := by
  refine .of (PE.imp (pe_un un_neg ha.val) ?_) rfl
  rintro σ H Q ⟨B, Dz, F, s, R, r, s', h, c⟩
  rw [evE] at h
  obtain ⟨ra, s1, ea', h⟩ := Ev.bind_ok h
  split at h
  · rename_i i ei
    cases h
    refine tE.next cf io R ea' fun Dz1 F1 H1 v G1 t1 R1 o1 g1 => ⟨i, o1.int ei, ?_⟩
    exact c.val t1 R1 (.int _)
  · cases h
theorem and_key {ea eb : E} : ∀ σ H (Q : V → Hp → Prop), tE cf io X.K (.and ea eb) σ H Q → tAndV (tE cf io X.K ea) (fun σ H Q => tE cf io X.K eb σ H fun x H1 => (∃ c, x = .bl c) ∧ Q x H1) σ H Q := by
  rintro σ H Q ⟨B, Dz, F, s, R, r, s', h, c⟩
  rw [evE] at h
  obtain ⟨ra, s1, ea', h⟩ := Ev.bind_ok h
  obtain ⟨b, eb', h⟩ := bCond_ok h
  refine tE.next cf io R ea' fun Dz1 F1 H1 v G1 t1 R1 o1 g1 => ⟨b, o1.bl eb', ?_⟩
  cases b with
  | false =>
    rw [if_neg (by simp)] at h
    cases h
    rw [if_neg Bool.false_ne_true]
    exact c.val (t1.mono fun i hi => by simp [E.muts, hi]) R1 (.bl _)
  | true =>
    rw [if_pos rfl] at h ⊢
    obtain ⟨rb, s2, e2, h⟩ := Ev.bind_ok h
    obtain ⟨b2, eb2, h⟩ := bCond_ok h
    cases h
    refine tE.next cf io R1 e2 fun Dz2 F2 H2 w G2 t2 R2 o2 g2 => ?_
    obtain rfl := o2.bl eb2
    exact ⟨⟨_, rfl⟩, c.val ((t1.trans t2).mono fun i hi => by simpa [E.muts] using hi) R2 (.bl _)⟩
theorem or_key {ea eb : E} : ∀ σ H (Q : V → Hp → Prop), tE cf io X.K (.or ea eb) σ H Q → tOrV (tE cf io X.K ea) (fun σ H Q => tE cf io X.K eb σ H fun x H1 => (∃ c, x = .bl c) ∧ Q x H1) σ H Q := by
  rintro σ H Q ⟨B, Dz, F, s, R, r, s', h, c⟩
  rw [evE] at h
  obtain ⟨ra, s1, ea', h⟩ := Ev.bind_ok h
  obtain ⟨b, eb', h⟩ := bCond_ok h
  refine tE.next cf io R ea' fun Dz1 F1 H1 v G1 t1 R1 o1 g1 => ⟨b, o1.bl eb', ?_⟩
  cases b with
  | true =>
    rw [if_pos rfl] at h
    cases h
    rw [if_pos rfl]
    exact c.val (t1.mono fun i hi => by simp [E.muts, hi]) R1 (.bl _)
  | false =>
    rw [if_neg (by simp)] at h
    rw [if_neg Bool.false_ne_true]
    obtain ⟨rb, s2, e2, h⟩ := Ev.bind_ok h
    obtain ⟨b2, eb2, h⟩ := bCond_ok h
    cases h
    refine tE.next cf io R1 e2 fun Dz2 F2 H2 w G2 t2 R2 o2 g2 => ?_
    obtain rfl := o2.bl eb2
    exact ⟨⟨_, rfl⟩, c.val ((t1.trans t2).mono fun i hi => by simpa [E.muts] using hi) R2 (.bl _)⟩
theorem tE.mono {e : E} {σ : L2.St} {H : Hp} {P Q : VK} {K : PySem.W.Frag} (h : tE cf io K e σ H P) (i : ∀ v H, P v H → Q v H) : tE cf io K e σ H Q := by
  obtain ⟨B, Dz, F, s, R, r, s', e, c⟩ := h
  exact ⟨B, Dz, F, s, R, r, s', e, fun Dz' F' H' v G t R' o g => i _ _ (c Dz' F' H' v G t R' o g)⟩
end Ti
end

section
namespace Ti
open PySem PySem.Spec PyProof.Rows L2
variable [PWc]

/-- more places given away -/
def Or (Dz : Addr → Prop) (N : List Addr) : Addr → Prop := fun a => Dz a ∨ a ∈ N
section
variable {K : PySem.W.Frag} {B Dz Dz' Dz1 Dz2 : Addr → Prop} {F F' F1 F2 : Nat → List Addr} {H H' H1 H2 : Hp} {M M1 M2 : List Nat} {s s' s1 s2 : Sl} {σ : L2.St} {r p : RV} {Q : VK}
theorem Rp.more {k : Nat} {d : D} {v : V} {G : List Addr} (h : Rp K H Dz k d v G) (dz : ∀ a, Dz a → Dz' a) : Rp K H Dz' k d v G := h.up (Same.refl H) dz
theorem Rps.more {k : Nat} {d : List D} {v : List V} {G : List Addr} (h : Rps K H Dz k d v G) (dz : ∀ a, Dz a → Dz' a) : Rps K H Dz' k d v G := h.up (Same.refl H) dz
mutual
/-- fewer levels of one's own: the others are given away -/
theorem Rp.cut : ∀ {k : Nat} {d : D} {v : V} {F : List Addr}, Rp K H Dz k d v F → F.Nodup → ∀ (j : Nat), j ≤ k → ∃ G N, Rp K H (Or Dz N) j d v G ∧ G.Sublist F ∧ N.Sublist F ∧ ∀ a ∈ G, a ∉ N
  | _, _, _, _, .non, _, j, _ => ⟨[], [], .non, List.Sublist.refl _, List.Sublist.refl _, fun _ m => by cases m⟩
  | _, _, _, _, .bl b, _, j, _ => ⟨[], [], .bl b, List.Sublist.refl _, List.Sublist.refl _, fun _ m => by cases m⟩
  | _, _, _, _, .int i, _, j, _ => ⟨[], [], .int i, List.Sublist.refl _, List.Sublist.refl _, fun _ m => by cases m⟩
  | _, _, _, _, .str x hx, _, j, _ => ⟨[], [], .str x hx, List.Sublist.refl _, List.Sublist.refl _, fun _ m => by cases m⟩
  | _, _, _, _, .tup h r, nd, j, hj =>
    let ⟨G, N, r', g1, g2, g3⟩ := Rps.cut r nd (j - 1) (by omega)
    ⟨G, N, .tup h r', g1, g2, g3⟩
  | _, _, _, _, .lz z h r, nd, j, hj => by
    obtain rfl : j = 0 := by omega
    obtain ⟨G, N, r', g1, g2, g3⟩ := Rps.cut r nd 0 (Nat.le_refl _)
    exact ⟨G, N, .lz (.inl z) h r', g1, g2, g3⟩
  | _, _, _, _, .scr h r, nd, j, hj =>
    let ⟨G, N, r', g1, g2, g3⟩ := Rps.cut r nd 0 (Nat.le_refl _)
    ⟨G, N, .scr h r', g1, g2, g3⟩
  | _, _, _, _, .lo (a := a) h r, nd, 0, hj => by
    obtain ⟨G, N, r', g1, g2, g3⟩ := Rps.cut r (List.nodup_cons.mp nd).2 0 (Nat.zero_le _)
    obtain rfl := r'.nil0
    exact ⟨[], a :: N, .lz (.inr List.mem_cons_self) h (r'.more fun b z => z.imp id (List.mem_cons_of_mem _)), List.nil_sublist _, g2.cons_cons _, fun _ m => by cases m⟩
  | _, _, _, _, .lo (a := a) h r, nd, j + 1, hj => by
    obtain ⟨G, N, r', g1, g2, g3⟩ := Rps.cut r (List.nodup_cons.mp nd).2 j (by omega)
    refine ⟨a :: G, N, .lo h r', g1.cons_cons _, g2.trans (List.sublist_cons_self _ _), fun b m => ?_⟩
    rcases List.mem_cons.mp m with rfl | m
    · exact fun z => (List.nodup_cons.mp nd).1 (g2.subset z)
    · exact g3 b m
  | _, _, _, _, .dz z h e r, nd, j, hj => by
    obtain rfl : j = 0 := by omega
    obtain ⟨G, N, r', g1, g2, g3⟩ := Rps.cut r nd 0 (Nat.le_refl _)
    exact ⟨G, N, .dz (.inl z) h e r', g1, g2, g3⟩
  | _, _, _, _, .do_ (a := a) h e r, nd, 0, hj => by
    obtain ⟨G, N, r', g1, g2, g3⟩ := Rps.cut r (List.nodup_cons.mp nd).2 0 (Nat.zero_le _)
    obtain rfl := r'.nil0
    exact ⟨[], a :: N, .dz (.inr List.mem_cons_self) h e (r'.more fun b z => z.imp id (List.mem_cons_of_mem _)), List.nil_sublist _, g2.cons_cons _, fun _ m => by cases m⟩
  | _, _, _, _, .do_ (a := a) h e r, nd, j + 1, hj => by
    obtain ⟨G, N, r', g1, g2, g3⟩ := Rps.cut r (List.nodup_cons.mp nd).2 j (by omega)
    refine ⟨a :: G, N, .do_ h e r', g1.cons_cons _, g2.trans (List.sublist_cons_self _ _), fun b m => ?_⟩
    rcases List.mem_cons.mp m with rfl | m
    · exact fun z => (List.nodup_cons.mp nd).1 (g2.subset z)
    · exact g3 b m
  | _, _, _, _, .nz z h e l r, nd, j, hj => by
    obtain rfl : j = 0 := by omega
    obtain ⟨G, N, r', g1, g2, g3⟩ := Rps.cut r nd 0 (Nat.le_refl _)
    exact ⟨G, N, .nz (.inl z) h e l r', g1, g2, g3⟩
  | _, _, _, _, .no_ (a := a) h e l r, nd, 0, hj => by
    obtain ⟨G, N, r', g1, g2, g3⟩ := Rps.cut r (List.nodup_cons.mp nd).2 0 (Nat.zero_le _)
    obtain rfl := r'.nil0
    exact ⟨[], a :: N, .nz (.inr List.mem_cons_self) h e l (r'.more fun b z => z.imp id (List.mem_cons_of_mem _)), List.nil_sublist _, g2.cons_cons _, fun _ m => by cases m⟩
  | _, _, _, _, .no_ (a := a) h e l r, nd, j + 1, hj => by
    obtain ⟨G, N, r', g1, g2, g3⟩ := Rps.cut r (List.nodup_cons.mp nd).2 0 (Nat.zero_le _)
    refine ⟨a :: G, N, .no_ h e l r', g1.cons_cons _, g2.trans (List.sublist_cons_self _ _), fun b m => ?_⟩
    rcases List.mem_cons.mp m with rfl | m
    · exact fun z => (List.nodup_cons.mp nd).1 (g2.subset z)
    · exact g3 b m
  | _, _, _, _, .iz z h e l r, nd, j, hj => by
    obtain rfl : j = 0 := by omega
    obtain ⟨G, N, r', g1, g2, g3⟩ := Rps.cut r nd 0 (Nat.le_refl _)
    exact ⟨G, N, .iz (.inl z) h e l r', g1, g2, g3⟩
  | _, _, _, _, .io_ (a := a) h e l r, nd, 0, hj => by
    obtain ⟨G, N, r', g1, g2, g3⟩ := Rps.cut r (List.nodup_cons.mp nd).2 0 (Nat.zero_le _)
    obtain rfl := r'.nil0
    exact ⟨[], a :: N, .iz (.inr List.mem_cons_self) h e l (r'.more fun b z => z.imp id (List.mem_cons_of_mem _)), List.nil_sublist _, g2.cons_cons _, fun _ m => by cases m⟩
  | _, _, _, _, .io_ (a := a) h e l r, nd, j + 1, hj => by
    obtain ⟨G, N, r', g1, g2, g3⟩ := Rps.cut r (List.nodup_cons.mp nd).2 j (by omega)
    refine ⟨a :: G, N, .io_ h e l r', g1.cons_cons _, g2.trans (List.sublist_cons_self _ _), fun b m => ?_⟩
    rcases List.mem_cons.mp m with rfl | m
    · exact fun z => (List.nodup_cons.mp nd).1 (g2.subset z)
    · exact g3 b m
theorem Rps.cut : ∀ {k : Nat} {d : List D} {v : List V} {F : List Addr}, Rps K H Dz k d v F → F.Nodup → ∀ (j : Nat), j ≤ k → ∃ G N, Rps K H (Or Dz N) j d v G ∧ G.Sublist F ∧ N.Sublist F ∧ ∀ a ∈ G, a ∉ N
  | _, _, _, _, .nil, _, j, _ => ⟨[], [], .nil, List.Sublist.refl _, List.Sublist.refl _, fun _ m => by cases m⟩
  | _, _, _, _, .cons h r, nd, j, hj => by
    rw [List.nodup_append] at nd
    obtain ⟨G1, N1, h', a1, a2, a3⟩ := Rp.cut h nd.1 j hj
    obtain ⟨G2, N2, r', b1, b2, b3⟩ := Rps.cut r nd.2.1 j hj
    refine ⟨G1 ++ G2, N1 ++ N2, .cons (h'.more fun b z => z.imp id (List.mem_append_left _)) (r'.more fun b z => z.imp id (List.mem_append_right _)), a1.append b1, a2.append b2, fun x m z => ?_⟩
    rcases List.mem_append.mp m with m | m <;> rcases List.mem_append.mp z with z | z
    · exact a3 x m z
    · exact nd.2.2 x (a1.subset m) x (b2.subset z) rfl
    · exact nd.2.2 x (a2.subset z) x (b1.subset m) rfl
    · exact b3 x m z
end
/-- a value at hand, as so many levels of one's own -/
theorem RvOk.fit {v : V} {G : List Addr} {want : Nat} {d : D} (h : RvOk K B H Dz F r v G) (e : r.fit want = some d) : ∃ G' N, Rp K H (Or Dz N) want d v G' ∧ G'.Sublist G ∧ N.Sublist G ∧ ∀ a ∈ G', a ∉ N := by
  cases r with
  | bo src k d' => cases e
  | ow k d' =>
    unfold RV.fit at e
    simp only at e
    split at e
    · rename_i hk
      cases e
      by_cases hw : want ≤ k
      · exact h.1.cut h.2.1 want hw
      · rcases hk.resolve_left hw with ⟨rfl, hs⟩ | hdp
        case inr => exact ⟨G, [], (h.1.deepen (by omega) hdp).more fun _ z => .inl z, List.Sublist.refl _, List.nil_sublist _, fun _ _ m => by cases m⟩
        have h1 := h.1
        obtain rfl := h1.nil0
        exact ⟨[], [], (h1.solid hs).more fun _ z => .inl z, List.Sublist.refl _, List.Sublist.refl _, fun _ m => by cases m⟩
    · cases e
theorem RvOk.out {v : V} {G : List Addr} (h : RvOk K B H Dz F r v G) : G.Nodup ∧ ∀ a ∈ G, ¬ Dz a ∧ ¬ B a ∧ (∀ j, a ∉ F j) ∧ Mut (H a) := by
  cases r with
  | bo src k d => obtain ⟨rfl, _⟩ := h; exact ⟨.nil, fun _ m => by cases m⟩
  | ow k d => exact ⟨h.2.1, fun a m => ⟨(h.2.2 a m).1, (h.2.2 a m).2.1, (h.2.2 a m).2.2, h.1.mut a m⟩⟩
/-- places are given away -/
theorem Rel.give {N : List Addr} (R : Rel K B Dz F s σ H) (h : ∀ a ∈ N, (∀ j, a ∉ F j) ∧ H a ≠ none) : Rel K B (Or Dz N) F s σ H := by
  refine ⟨R.len, fun i x e => ?_, R.nd, R.dj, fun i a m z => ?_, R.out, R.mt, fun a z => ?_, R.bz, R.bt⟩
  · have q := R.sl i x e
    cases x with
    | no => exact q
    | bo k d => obtain ⟨h1, v, G, h2, h3, h4⟩ := q; exact ⟨h1, v, G, h2, h3.more fun _ z => .inl z, h4⟩
    | ow k d => obtain ⟨v, h2, h3⟩ := q; exact ⟨v, h2, h3.more fun _ z => .inl z⟩
  · rcases z with z | z
    · exact R.dz i a m z
    · exact (h a z).1 i m
  · rcases z with z | z
    · exact R.tk a z
    · exact (h a z).2
theorem Tr.give {N : List Addr} (h : ∀ a ∈ N, H a = none ∨ ∃ i ∈ M, a ∈ F i) (t : Tr M Dz F H Dz2 F2 H2) : Tr M Dz F H (Or Dz2 N) F2 H2 :=
  ⟨fun a z => .inl (t.dz a z), fun a z => z.elim (t.new a) fun z => .inr (h a z), t.keep, t.nm, t.fs, t.fn⟩

theorem good_gv {cf : Nat → List Arg → Rs} {io : List Nat} {X : Cx} {i : Nat} {x : Str} {pos : Pos} (hN : X.N[i]? = some x) (hv : Vis X.env.scope x) (hd : (x == ("__debug__" : Str)) = false) (hcd : (x == ("__classdict__" : Str)) = false) : Good cf io X (.gv i) (.Name x pos) := by
  refine .of (PE.imp (pe_var hN hv hd hcd) ?_) rfl
  rintro σ H Q ⟨B, Dz, F, s, R, r, s', h, c⟩
  rw [evE] at h
  split at h
  · rename_i k d hs
    split at h
    · cases h
    cases h
    obtain ⟨v, h2, h3⟩ := R.sl i _ hs
    have hi : i < s.length := (List.getElem?_eq_some_iff.mp hs).1
    obtain ⟨G, r0, g⟩ := h3.freeze (Dz' := Or Dz (F i)) (fun _ z => .inl z) (fun a m => .inr m) 0 (Nat.zero_le _)
    obtain rfl := r0.nil0
    have R1 : Rel X.K B Dz (fset F i []) (s.set i .no) σ H := R.put hi rfl (fun _ _ => rfl) fset_same .nil fun _ m => by cases m
    have R2 := R1.give (N := F i) fun a m => ⟨fun j mj => by
      rcases fset_in mj with ⟨_, z⟩ | ⟨h, z⟩
      · cases z
      · exact h (R.dj i j a m z).symm, tracked (R.mt i a m)⟩
    have R3 : Rel X.K B (Or Dz (F i)) (fset (fset F i []) i []) ((s.set i .no).set i (.bo 0 d)) σ H := R2.put (by rw [List.length_set]; exact hi) rfl (fun _ _ => rfl) ⟨fset_same, v, [], h2, r0, fun _ m => by cases m⟩ .nil fun _ m => by cases m
    rw [List.set_set] at R3
    have ef : fset (fset F i []) i [] = fset F i [] := by
      funext j
      unfold fset
      split <;> rfl
    rw [ef] at R3
    have t0 : Tr [i] Dz F H Dz (fset F i []) H := ⟨fun _ z => z, fun _ z => .inl z, fun _ _ e _ => e, fun _ _ e _ => e, fun j hj => fset_ne fun z => hj (by simp [z]), fun j a hj m => by
      obtain rfl : j = i := by simpa using hj
      rw [fset_same] at m; cases m⟩
    have t1 := Tr.give (N := F i) (fun a m => .inr ⟨i, by simp, m⟩) t0
    exact ⟨v, h2, c (Or Dz (F i)) (fset F i []) H v [] (t1.mono fun j hj => by simpa [E.muts] using hj) R3 ⟨r0, .nil, fun _ m => by cases m⟩ fun _ m => by cases m⟩
  · cases h
/-- arguments at hand -/
inductive AvsOk (K : PySem.W.Frag) (B : Addr → Prop) (H : Hp) (Dz : Addr → Prop) (F : Nat → List Addr) (σ : L2.St) : List AV → List V → List Addr → Prop
  | nil : AvsOk K B H Dz F σ [] [] []
  | io {i : Nat} {v : V} {as : List AV} {vs : List V} {G : List Addr} : σ[i]? = some (some v) → AvsOk K B H Dz F σ as vs G → AvsOk K B H Dz F σ (.io i :: as) (v :: vs) G
  | rv {r : RV} {v : V} {as : List AV} {vs : List V} {G1 G2 : List Addr} : RvOk K B H Dz F r v G1 → AvsOk K B H Dz F σ as vs G2 → (∀ a ∈ G1, a ∉ G2) → AvsOk K B H Dz F σ (.rv r :: as) (v :: vs) (G1 ++ G2)
theorem AvsOk.fits {k : Nat} : ∀ {as : List AV} {vs : List V} {G : List Addr} {rs : List RV} {ds : List D}, AvsOk K B H Dz F σ as vs G → AV.rvs as = some rs → fits k rs = some ds →
    ∃ G' N, Rps K H (Or Dz N) k ds vs G' ∧ G'.Sublist G ∧ N.Sublist G ∧ ∀ a ∈ G', a ∉ N
  | _, _, _, _, _, .nil, e1, e2 => by
    cases e1; cases e2
    exact ⟨[], [], .nil, List.Sublist.refl _, List.Sublist.refl _, fun _ m => by cases m⟩
  | _, _, _, _, _, .io _ _, e1, e2 => by cases e1
  | _, _, _, _, _, .rv (G1 := G1) (G2 := G2) o t dj, e1, e2 => by
    rw [AV.rvs, Option.map_eq_some_iff] at e1
    obtain ⟨rs, e1, rfl⟩ := e1
    unfold Ti.fits at e2
    split at e2
    · rename_i d ds' f1 f2
      cases e2
      obtain ⟨A1, N1, h', a1, a2, a3⟩ := o.fit f1
      obtain ⟨A2, N2, r', b1, b2, b3⟩ := AvsOk.fits t e1 f2
      refine ⟨A1 ++ A2, N1 ++ N2, .cons (h'.more fun b z => z.imp id (List.mem_append_left _)) (r'.more fun b z => z.imp id (List.mem_append_right _)), a1.append b1, a2.append b2, fun x m z => ?_⟩
      rcases List.mem_append.mp m with m | m <;> rcases List.mem_append.mp z with z | z
      · exact a3 x m z
      · exact dj x (a1.subset m) (b2.subset z)
      · exact dj x (a2.subset z) (b1.subset m)
      · exact b3 x m z
    · cases e2
theorem AvsOk.out : ∀ {as : List AV} {vs : List V} {G : List Addr}, AvsOk K B H Dz F σ as vs G → G.Nodup ∧ ∀ a ∈ G, ¬ Dz a ∧ ¬ B a ∧ (∀ j, a ∉ F j) ∧ Mut (H a)
  | _, _, _, .nil => ⟨.nil, fun _ m => by cases m⟩
  | _, _, _, .io _ t => t.out
  | _, _, _, .rv o t dj => by
    have h1 := o.out
    have h2 := AvsOk.out t
    refine ⟨List.nodup_append.mpr ⟨h1.1, h2.1, fun a m b z e => ?_⟩, fun a m => (List.mem_append.mp m).elim (h1.2 a) (h2.2 a)⟩
    subst e
    exact dj a m z
theorem AvsOk.len : ∀ {as : List AV} {vs : List V} {G : List Addr}, AvsOk K B H Dz F σ as vs G → as.length = vs.length
  | _, _, _, .nil => rfl
  | _, _, _, .io _ t => by rw [List.length_cons, List.length_cons, t.len]
  | _, _, _, .rv _ t _ => by rw [List.length_cons, List.length_cons, t.len]
/-- values that are read -/
theorem AvsOk.shs : ∀ {as : List AV} {vs : List V} {G : List Addr} {rs : List RV} {ds : List D}, AvsOk K B H Dz F σ as vs G → AV.rvs as = some rs → shs rs = some ds → ds.length = vs.length ∧ ∀ (j : Nat) (d : D) (v : V), ds[j]? = some d → vs[j]? = some v → ∃ k G', k ≤ 1 ∧ Rp K H Dz k d v G'
  | _, _, _, _, _, .nil, e1, e2 => by cases e1; cases e2; exact ⟨rfl, fun _ _ _ e _ => by simp at e⟩
  | _, _, _, _, _, .io _ _, e1, e2 => by cases e1
  | _, _, _, _, _, .rv o t dj, e1, e2 => by
    rw [AV.rvs, Option.map_eq_some_iff] at e1
    obtain ⟨rs, e1, rfl⟩ := e1
    unfold Ti.shs at e2
    split at e2
    · rename_i d ds' f1 f2
      cases e2
      obtain ⟨h1, h2⟩ := AvsOk.shs t e1 f2
      refine ⟨by rw [List.length_cons, List.length_cons, h1], fun j d' v' q1 q2 => ?_⟩
      cases j with
      | zero => cases q1; cases q2; exact sh_rp o f1
      | succ j => exact h2 j d' v' (by simpa using q1) (by simpa using q2)
    · cases e2
theorem AvsOk.ds : ∀ {as : List AV} {vs : List V} {G : List Addr} {rs : List RV}, AvsOk K B H Dz F σ as vs G → AV.rvs as = some rs → rs.length = vs.length ∧ ∀ (j : Nat) (d : D) (v : V), (rs.map RV.d)[j]? = some d → vs[j]? = some v → ∃ k G', Rp K H Dz k d v G'
  | _, _, _, _, .nil, e1 => by cases e1; exact ⟨rfl, fun _ _ _ e _ => by simp at e⟩
  | _, _, _, _, .io _ _, e1 => by cases e1
  | _, _, _, _, .rv o t dj, e1 => by
    rw [AV.rvs, Option.map_eq_some_iff] at e1
    obtain ⟨rs, e1, rfl⟩ := e1
    obtain ⟨h1, h2⟩ := AvsOk.ds t e1
    refine ⟨by rw [List.length_cons, List.length_cons, h1], fun j d' v' q1 q2 => ?_⟩
    cases j with
    | zero =>
      cases q1; cases q2
      obtain ⟨G', h'⟩ := o.rp
      exact ⟨_, G', h'⟩
    | succ j => exact h2 j d' v' (by simpa using q1) (by simpa using q2)
/-- arguments stay -/
theorem AvsOk.tr : ∀ {as : List AV} {vs : List V} {G : List Addr}, Rel K B Dz F s σ H → AvsOk K B H Dz F σ as vs G → Tr M Dz F H Dz' F' H' → clash (AV.srcs as) M = false → AvsOk K B H' Dz' F' σ as vs G
  | _, _, _, _, .nil, _, _ => .nil
  | _, _, _, R, .io e t, u, c => .io e (AvsOk.tr R t u c)
  | _, _, _, R, .rv o t dj, u, c => by
    simp only [AV.srcs, clash, List.any_append, Bool.or_eq_false_iff] at c
    exact .rv (o.tr R u c.1) (AvsOk.tr R t u c.2) dj

variable (cf : Nat → List Arg → Rs) (io : List Nat)
def tAs (K : PySem.W.Frag) (es : List E) : TA := fun σ H Q => ∃ (B Dz : Addr → Prop) (F : Nat → List Addr) (s : Sl), Rel K B Dz F s σ H ∧ ∃ as s', evAs cf io es s = .ok as s' ∧
  ∀ (Dz' : Addr → Prop) (F' : Nat → List Addr) (H' : Hp) (vs : List V) (G : List Addr), Tr (E.mutss es) Dz F H Dz' F' H' → Rel K B Dz' F' s' σ H' → AvsOk K B H' Dz' F' σ as vs G → (∀ a ∈ G, H a = none ∨ ∃ i ∈ E.mutss es, a ∈ F i) → Q vs H'
theorem tAs.next {es : List E} {P : List V → Hp → Prop} (R : Rel K B Dz F s σ H) {as : List AV} {s1 : Sl} (e : evAs cf io es s = .ok as s1)
    (h : ∀ (Dz1 : Addr → Prop) (F1 : Nat → List Addr) (H1 : Hp) (vs : List V) (G : List Addr), Tr (E.mutss es) Dz F H Dz1 F1 H1 → Rel K B Dz1 F1 s1 σ H1 → AvsOk K B H1 Dz1 F1 σ as vs G → (∀ x ∈ G, H x = none ∨ ∃ i ∈ E.mutss es, x ∈ F i) → P vs H1) : tAs cf io K es σ H P :=
  ⟨B, Dz, F, s, R, as, s1, e, h⟩
end
variable {cf : Nat → List Arg → Rs} {io : List Nat} {X : Cx}
/-- arguments and their written forms -/
structure Goods (cf : Nat → List Arg → Rs) (io : List Nat) (X : Cx) (es : List E) (pes : List Expr) : Prop where
  val : PA X pes (tAs cf io X.K es)
  star : pes.all notStar = true
theorem goods_nil : Goods cf io X [] [] := by
  refine ⟨PA.imp pa_nil ?_, rfl⟩
  rintro σ H Q ⟨B, Dz, F, s, R, as, s', h, c⟩
  rw [evAs] at h
  cases h
  exact c Dz F H [] [] (Tr.refl _) R .nil fun _ m => by cases m
theorem goods_io {i : Nat} {x : Str} {pos : Pos} {es : List E} {pes : List Expr} (hN : X.N[i]? = some x) (hv : Vis X.env.scope x) (hd : (x == ("__debug__" : Str)) = false) (hcd : (x == ("__classdict__" : Str)) = false) (h : Goods cf io X es pes) :
    Goods cf io X (.io i :: es) (.Name x pos :: pes) := by
  refine ⟨PA.imp (pa_cons (pe_var hN hv hd hcd) h.val (star_cons rfl _ _)) ?_, by simp [notStar, h.star]⟩
  rintro σ H Q ⟨B, Dz, F, s, R, as, s', e, c⟩
  rw [evAs] at e
  split at e
  · rename_i k d hs
    obtain ⟨as1, s1, e1, e⟩ := Ev.bind_ok e
    cases e
    obtain ⟨v, h2, h3⟩ := R.sl i _ hs
    refine ⟨v, h2, tAs.next cf io R e1 fun Dz1 F1 H1 vs G t R1 o g => c Dz1 F1 H1 (v :: vs) G (t.mono fun j hj => by simp [E.mutss, hj]) R1 (.io h2 o) fun a m => (g a m).imp id fun ⟨j, hj, z⟩ => ⟨j, by simp [E.mutss, hj], z⟩⟩
  · cases e
theorem goods_cons {e : E} {pe : Expr} {es : List E} {pes : List Expr} (hni : ∀ i, e ≠ .io i) (ha : Good cf io X e pe) (hs : notStar pe = true) (h : Goods cf io X es pes) : Goods cf io X (e :: es) (pe :: pes) := by
  refine ⟨PA.imp (pa_cons ha.val h.val (star_cons hs _ _)) ?_, by simp [hs, h.star]⟩
  rintro σ H Q ⟨B, Dz, F, s, R, as, s', q, c⟩
  rw [evAs] at q
  · obtain ⟨ra, s1, ea, q⟩ := Ev.bind_ok q
    split at q
    · cases q
    rename_i hc
    obtain ⟨as1, s2, eb, q⟩ := Ev.bind_ok q
    cases q
    refine tE.next cf io R ea fun Dz1 F1 H1 v G1 t1 R1 o1 g1 => ?_
    refine tAs.next cf io R1 eb fun Dz2 F2 H2 vs G2 t2 R2 o2 g2 => ?_
    have lift1 : ∀ {x : Addr}, (∃ i ∈ E.muts e, x ∈ F i) → ∃ i ∈ E.mutss (e :: es), x ∈ F i := fun ⟨i, hi, z⟩ => ⟨i, by simp [E.mutss, hi], z⟩
    refine c Dz2 F2 H2 (v :: vs) (G1 ++ G2) (t1.trans t2) R2 (.rv (o1.tr R1 t2 (by simpa using hc)) o2 fun x m1 m2 => ?_) fun x m => ?_
    · cases ra with
      | bo src k d => rw [o1.1] at m1; cases m1
      | ow k d =>
        rcases g2 x m2 with z | ⟨i, hi, z⟩
        · exact tracked (o1.1.mut x m1) z
        · exact (o1.2.2 x m1).2.2 i z
    · rcases List.mem_append.mp m with m | m
      · exact (g1 x m).imp id lift1
      · rcases g2 x m with z | ⟨i, hi, z⟩
        · exact (t1.none_of z).imp id lift1
        · rcases t1.back z with z | z | z
          · exact .inr ⟨i, by simp [E.mutss, hi], z⟩
          · exact .inl z
          · exact .inr (lift1 z)
  · exact hni
theorem evAs_len : ∀ {es : List E} {s s1 : Sl} {as : List AV}, evAs cf io es s = .ok as s1 → as.length = es.length
  | [], _, _, _, e => by rw [evAs] at e; cases e; rfl
  | x :: es, s, s1, as, e => by
    by_cases hx : ∃ i, x = .io i
    · obtain ⟨i, rfl⟩ := hx
      rw [evAs] at e
      split at e
      · obtain ⟨as1, s2, e1, e⟩ := Ev.bind_ok e
        cases e
        simp [evAs_len e1]
      · cases e
    · rw [evAs] at e
      · obtain ⟨ra, s2, e1, e⟩ := Ev.bind_ok e
        split at e
        · cases e
        obtain ⟨as1, s3, e2, e⟩ := Ev.bind_ok e
        cases e
        simp [evAs_len e2]
      · exact fun i z => hx ⟨i, z⟩
/-- displays -/
theorem good_tup {k : Nat} {es : List E} {pes : List Expr} {x1 : Nat} {pos : Pos} (hl : es.length ≤ 1000) (h : Goods cf io X es pes) : Good cf io X (.tup k es) (.Tuple pes x1 pos) := by
  refine .of (PE.imp (pe_tupU h.val) ?_) rfl
  rintro σ H Q ⟨B, Dz, F, s, R, r, s', q, c⟩
  rw [evE] at q
  obtain ⟨as, s1, ea, q⟩ := Ev.bind_ok q
  split at q
  · rename_i ds e
    cases q
    rw [Option.bind_eq_some_iff] at e
    obtain ⟨rs, e1, e2⟩ := e
    refine tAs.next cf io R ea fun Dz1 F1 H1 vs G t1 R1 o1 g1 => ?_
    obtain ⟨G', N, rp, sub1, sub2, dj⟩ := o1.fits e1 e2
    have h1 := o1.len
    have h2 := evAs_len ea
    refine ⟨by rw [sizeLine_eq]; omega, fun p oo hp hoo => ?_⟩
    have ho := o1.out
    have gN : ∀ a ∈ N, H a = none ∨ ∃ i ∈ E.muts (.tup k es), a ∈ F i := fun a m => by simpa [E.muts] using g1 a (sub2.subset m)
    have R2 := R1.give (N := N) fun a m => ⟨(ho.2 a (sub2.subset m)).2.2.1, tracked (ho.2 a (sub2.subset m)).2.2.2⟩
    have tt : Tr (E.muts (.tup k es)) Dz F H (Or Dz1 N) F1 H1 := Tr.give gN (t1.mono fun i hi => by simpa [E.muts] using hi)
    have sn := same_new (o := HO.frz oo (.tup vs)) hp
    refine c (Or Dz1 N) F1 _ _ G' ((tt.trans (Tr.grow sn (fun _ z => z) fun _ z => .inl z)).mono fun i hi => by simpa using hi)
      (R2.grow sn (fun _ z => z) (fun _ z => .inl z) fun a z => ?_) ⟨.tup (.inl ⟨oo, hoo, upd_same⟩) (rp.up sn fun _ z => z), ho.1.sublist sub1, fun a m => ⟨fun z => ?_, (ho.2 a (sub1.subset m)).2.1, (ho.2 a (sub1.subset m)).2.2.1⟩⟩ fun a m => by simpa [E.muts] using g1 a (sub1.subset m)
    · have hz := R2.tk a z
      cases q : H1 a with
      | none => exact absurd q hz
      | some o => rw [sn a o q]; exact fun z => nomatch z
    · rcases z with z | z
      · exact (ho.2 a (sub1.subset m)).1 z
      · exact dj a m z
  · cases q
theorem good_lst {k : Nat} {es : List E} {pes : List Expr} {pos : Pos} (hl : es.length ≤ 1000) (h : Goods cf io X es pes) : Good cf io X (.lst k es) (.List pes pos) := by
  refine .of (PE.imp (pe_lst h.val) ?_) rfl
  rintro σ H Q ⟨B, Dz, F, s, R, r, s', q, c⟩
  rw [evE] at q
  obtain ⟨as, s1, ea, q⟩ := Ev.bind_ok q
  split at q
  · rename_i ds e
    split at q
    · rename_i hk
      cases q
      rw [Option.bind_eq_some_iff] at e
      obtain ⟨rs, e1, e2⟩ := e
      refine tAs.next cf io R ea fun Dz1 F1 H1 vs G t1 R1 o1 g1 => ?_
      obtain ⟨G', N, rp, sub1, sub2, dj⟩ := o1.fits e1 e2
      have h1 := o1.len
      have h2 := evAs_len ea
      refine ⟨by rw [sizeLine_eq]; omega, fun p hp => ?_⟩
      have ho := o1.out
      have gN : ∀ a ∈ N, H a = none ∨ ∃ i ∈ E.muts (.lst k es), a ∈ F i := fun a m => by simpa [E.muts] using g1 a (sub2.subset m)
      have R2 := R1.give (N := N) fun a m => ⟨(ho.2 a (sub2.subset m)).2.2.1, tracked (ho.2 a (sub2.subset m)).2.2.2⟩
      have tt : Tr (E.muts (.lst k es)) Dz F H (Or Dz1 N) F1 H1 := Tr.give gN (t1.mono fun i hi => by simpa [E.muts] using hi)
      have sn := same_new (o := HO.lst vs) hp
      obtain ⟨k, rfl⟩ : ∃ j, k = j + 1 := ⟨k - 1, by omega⟩
      have pG : p ∉ G' := fun m => tracked (ho.2 p (sub1.subset m)).2.2.2 hp
      refine c (Or Dz1 N) F1 _ _ (p :: G') ((tt.trans (Tr.grow sn (fun _ z => z) fun _ z => .inl z)).mono fun i hi => by simpa using hi)
        (R2.grow sn (fun _ z => z) (fun _ z => .inl z) fun a z => ?_) ⟨.lo upd_same (rp.up sn fun _ z => z), List.nodup_cons.mpr ⟨pG, ho.1.sublist sub1⟩, fun a m => ?_⟩ fun a m => ?_
      · have hz := R2.tk a z
        cases q : H1 a with
        | none => exact absurd q hz
        | some o => rw [sn a o q]; exact fun z => nomatch z
      · rcases List.mem_cons.mp m with rfl | m
        · exact ⟨fun z => R2.tk a z hp, fun z => R2.bt a z hp, fun j z => tracked (R2.mt j a z) hp⟩
        · refine ⟨fun z => ?_, (ho.2 a (sub1.subset m)).2.1, (ho.2 a (sub1.subset m)).2.2.1⟩
          rcases z with z | z
          · exact (ho.2 a (sub1.subset m)).1 z
          · exact dj a m z
      · rcases List.mem_cons.mp m with rfl | m
        · exact tt.none_of hp
        · simpa [E.muts] using g1 a (sub1.subset m)
    · cases q
  · cases q
end Ti
end

section
namespace Ti
open PySem PySem.Spec PyProof.Rows L2
variable [PWc]

variable {cf : Nat → List Arg → Rs} {io : List Nat} {X : Cx}
/-- what stands behind and, or -/
structure GoodB (cf : Nat → List Arg → Rs) (io : List Nat) (X : Cx) (op : BoolOp) (e : E) (pes : List Expr) (pos : Pos) : Prop where
  val : PE X (.BoolOp op pes pos) (tE cf io X.K e)
  tst : PW X (.BoolOp op pes pos) (tB (tE cf io X.K e))
theorem goodB_one {op : BoolOp} {e : E} {pe : Expr} {pos : Pos} (h : Good cf io X e pe) : GoodB cf io X op e [pe] pos := by
  refine ⟨pe_one h.val, ?_⟩
  cases op with
  | And => exact pw_and1 h.tst
  | Or => exact pw_or1 h.tst
theorem PW.imp {X : Cx} {e : Expr} {t u : TT} (h : PW X e u) (i : ∀ σ H Q, t σ H Q → u σ H Q) : PW X e t := ⟨fun wh pins s σ H Q I q => h.run wh pins s σ H Q I (i σ H Q q)⟩
theorem goodB_and {ea eb : E} {a b : Expr} {rest : List Expr} {pos : Pos} (ha : Good cf io X ea a) (hb : GoodB cf io X .And eb (b :: rest) pos) : GoodB cf io X .And (.and ea eb) (a :: b :: rest) pos := by
  refine ⟨PE.imp (pe_and ha.val hb.val) fun σ H Q h => ?_, PW.imp (pw_and ha.tst hb.tst) fun σ H Q h => ?_⟩
  · refine tE.mono (and_key σ H Q h) fun v H1 ⟨c, e, q⟩ => ⟨c, e, ?_⟩
    cases c with
    | false => rw [if_neg Bool.false_ne_true] at q ⊢; exact q
    | true => rw [if_pos rfl] at q ⊢; exact tE.mono q fun _ _ z => z.2
  · refine tE.mono (and_key σ H _ h) fun v H1 ⟨c, e, q⟩ => ⟨c, e, ?_⟩
    cases c with
    | false =>
      rw [if_neg Bool.false_ne_true] at q ⊢
      obtain ⟨c, e, q⟩ := q
      cases e; exact q
    | true => rw [if_pos rfl] at q ⊢; exact tE.mono q fun _ _ z => z.2
theorem goodB_or {ea eb : E} {a b : Expr} {rest : List Expr} {pos : Pos} (ha : Good cf io X ea a) (hb : GoodB cf io X .Or eb (b :: rest) pos) : GoodB cf io X .Or (.or ea eb) (a :: b :: rest) pos := by
  refine ⟨PE.imp (pe_or ha.val hb.val) fun σ H Q h => ?_, PW.imp (pw_or ha.tst hb.tst) fun σ H Q h => ?_⟩
  · refine tE.mono (or_key σ H Q h) fun v H1 ⟨c, e, q⟩ => ⟨c, e, ?_⟩
    cases c with
    | true => rw [if_pos rfl] at q ⊢; exact q
    | false => rw [if_neg Bool.false_ne_true] at q ⊢; exact tE.mono q fun _ _ z => z.2
  · refine tE.mono (or_key σ H _ h) fun v H1 ⟨c, e, q⟩ => ⟨c, e, ?_⟩
    cases c with
    | true =>
      rw [if_pos rfl] at q ⊢
      obtain ⟨c, e, q⟩ := q
      cases e; exact q
    | false => rw [if_neg Bool.false_ne_true] at q ⊢; exact tE.mono q fun _ _ z => z.2
theorem goodB_good {op : BoolOp} {e : E} {pes : List Expr} {pos : Pos} (h : GoodB cf io X op e pes pos) : Good cf io X e (.BoolOp op pes pos) := ⟨h.val, h.tst.pt⟩
/-- a if c else b -/
theorem ite_key {ec ea eb : E} : ∀ σ H (Q : V → Hp → Prop), tE cf io X.K (.ite ec ea eb) σ H Q → tIf (tB (tE cf io X.K ec)) (tE cf io X.K ea) (tE cf io X.K eb) σ H Q := by
  rintro σ H Q ⟨B, Dz, F, s, R, r, s', h, c⟩
  rw [evE] at h
  obtain ⟨ra, s1, ea', h⟩ := Ev.bind_ok h
  obtain ⟨b, eb', h⟩ := bCond_ok h
  refine tE.next cf io R ea' fun Dz1 F1 H1 v G1 t1 R1 o1 g1 => ⟨b, o1.bl eb', ?_⟩
  cases b with
  | true =>
    rw [if_pos rfl] at h ⊢
    exact ⟨B, Dz1, F1, s1, R1, r, s', h, (c.mono (M1 := E.muts ec ++ E.muts ea) fun i hi => by
      rcases List.mem_append.mp hi with z | z <;> simp [E.muts, z]).later t1⟩
  | false =>
    rw [if_neg (by simp)] at h
    rw [if_neg Bool.false_ne_true]
    exact ⟨B, Dz1, F1, s1, R1, r, s', h, (c.mono (M1 := E.muts ec ++ E.muts eb) fun i hi => by
      rcases List.mem_append.mp hi with z | z <;> simp [E.muts, z]).later t1⟩
theorem pt_ite {c a b : Expr} {pos : Pos} {tc ta tb : TT} (hc : PT X c tc) (ha : PT X a ta) (hb : PT X b tb) : PT X (.IfExp c a b pos) (fun σ H Q => tc σ H fun k H1 => if k = true then ta σ H1 Q else tb σ H1 Q) := by
  refine ⟨fun pins s σ H Q I h => ?_⟩
  refine isTrue_IfExp (thn (hc.run pins s σ H _ I h) fun d s1 ⟨H1, I1, q1⟩ => ?_)
  cases d with
  | true => exact ha.run pins s1 σ H1 Q I1 q1
  | false => exact hb.run pins s1 σ H1 Q I1 q1
theorem good_ite {ec ea eb : E} {c a b : Expr} {pos : Pos} (hc : Good cf io X ec c) (ha : Good cf io X ea a) (hb : Good cf io X eb b) : Good cf io X (.ite ec ea eb) (.IfExp c a b pos) :=
  ⟨PE.imp (pe_ifExp hc.tst ha.val hb.val) ite_key, PT.imp (pt_ite hc.tst ha.tst hb.tst) fun σ H Q h => ite_key σ H _ h⟩
/-- a o b o' c -/
theorem chn_key {o1 o2 : Cop} {ea eb ec : E} : ∀ σ H (Q : V → Hp → Prop), tE cf io X.K (.chn o1 o2 ea eb ec) σ H Q → tChain (rCmp X.K o1) (rCmp X.K o2) (tE cf io X.K ea) (tE cf io X.K eb) (tE cf io X.K ec) σ H Q := by
  rintro σ H Q ⟨B, Dz, F, s, R, r, s', h, c⟩
  rw [evE] at h
  refine two R h fun ra rb s2 Dz2 F2 H2 v w G1 G2 t R2 p1 p2 _ _ _ h => ?_
  obtain ⟨_, q1⟩ := p1.rp
  obtain ⟨_, q2⟩ := p2.rp
  have em : E.muts (.chn o1 o2 ea eb ec) = (E.muts ea ++ E.muts eb) ++ E.muts ec := rfl
  split at h
  · rename_i e1
    split at h
    · cases h
    rename_i hc
    obtain ⟨rc, s3, ec', h⟩ := Ev.bind_ok h
    obtain ⟨d, e2, rfl, rfl⟩ := r0_ok h
    rw [Option.map_eq_some_iff] at e2
    obtain ⟨b2, e2, rfl⟩ := e2
    refine ⟨Dz2, _, _, _, _, _, _, true, q1, q2, e1, true, rfl, ?_⟩
    rw [if_pos rfl]
    refine tE.next cf io R2 ec' fun Dz3 F3 H3 u G3 t3 R3 p3 _ => ?_
    obtain ⟨_, q2'⟩ := (p2.tr R2 t3 (by simpa using hc)).rp
    obtain ⟨_, q3⟩ := p3.rp
    rw [em] at c
    exact ⟨Dz3, _, _, _, _, _, _, b2, q2', q3, e2, c.val (t.trans t3) R3 (.bl b2)⟩
  · rename_i e1
    cases h
    refine ⟨Dz2, _, _, _, _, _, _, false, q1, q2, e1, false, rfl, ?_⟩
    rw [if_neg Bool.false_ne_true]
    rw [em] at c
    exact c.val (t.mono fun i hi => List.mem_append_left _ hi) R2 (.bl false)
  · cases h
theorem good_chn {o1 o2 : Cop} {ea eb ec : E} {a b c : Expr} {pos : Pos} (hu : X.A.units + 100 < cLine) (ha : Good cf io X ea a) (hb : Good cf io X eb b) (hc : Good cf io X ec c) (hm : lastMarks [o1.py, o2.py] [b, c] = false) :
    Good cf io X (.chn o1 o2 ea eb ec) (.Compare a [o1.py, o2.py] [b, c] pos) :=
  ⟨PE.imp (pe_chain (opr_cmp hu o1) (opr_cmp hu o2) ha.val hb.val hc.val hm) chn_key, PT.imp (pt_chain (opr_cmp hu o1) (opr_cmp hu o2) ha.val hb.val hc.val hm) fun σ H Q h => chn_key σ H _ h⟩

/-! ### an item -/
theorem place_ix (n : Nat) (i : Int) : place n i = ixN n i := by
  unfold place ixN
  split
  · rfl
  · by_cases h : 0 ≤ i + n
    · rw [if_pos h, if_pos (by omega)]
    · rw [if_neg h, if_neg (by omega)]
def rIdx (K : PySem.W.Frag) : R2 := fun v w H Q => ∃ (Dz : Addr → Prop) (k1 k2 : Nat) (x y : D) (G1 G2 : List Addr) (d : D), Rp K H Dz k1 x v G1 ∧ Rp K H Dz k2 y w G2 ∧ idxD x y = some d ∧ ∀ v' G', Rp K H Dz (k1 - 1) d v' G' → G'.Sublist G1 → Q v' H
theorem ixr_idx (hu : X.A.units + 100 < cLine) : IxR X (rIdx X.K) := by
  intro value slice pins s σ H v w u1 u2 Q I r1 r2 h hs
  obtain ⟨Dz, k1, k2, x, y, G1, G2, d, h1, h2, e, q⟩ := h
  have at_ : ∀ {xs : List D} {vs : List V} {i : Int} {k : Nat} {F : List Addr}, Rps X.K H Dz k xs vs F → ((place xs.length i).bind fun j => xs[j]?) = some d → ∃ z G', atI vs i = some z ∧ Rp X.K H Dz k d z G' ∧ G'.Sublist F := by
    intro xs vs i k F r e
    rw [Option.bind_eq_some_iff] at e
    obtain ⟨j, e1, e2⟩ := e
    obtain ⟨z, G', z1, z2, z3⟩ := r.at e2
    refine ⟨z, G', ?_, z2, z3⟩
    unfold atI
    rw [← place_ix, ← r.len, e1]
    exact z1
  cases x <;> try (simp only [idxD] at e; cases e)
  · -- a text
    cases y <;> simp only [idxD] at e <;> try cases e
    rename_i x i
    split at e
    · rename_i h0
      rw [Option.map_eq_some_iff] at e
      obtain ⟨c, e1, rfl⟩ := e
      cases h1 with
      | str _ hx =>
        cases h2
        refine ix_str value slice pins s σ H _ _ u1 u2 Q I r1 r2 ⟨_, i, c.toNat, rfl, rfl, by rw [ofString_length, ← big_size]; exact hx, ?_, ?_⟩ hs
        · unfold atI ixN
          rw [if_pos h0, Str.ofString_eq_toList]
          have hl := (List.getElem?_eq_some_iff.mp e1).1
          simp only [List.length_map]
          rw [if_pos (by omega)]
          simp [e1]
        · have es : (⟨#[c.toNat]⟩ : Str) = Str.ofString (String.singleton c) := by rw [Str.ofString_eq_toList]; simp
          rw [es]
          exact q _ [] (.str _ (by simp [big])) (List.nil_sublist _)
    · cases e
  · -- a tuple
    cases y <;> simp only [idxD] at e <;> try cases e
    cases h1 with
    | tup ht hr =>
      cases h2
      obtain ⟨z, G', z1, z2, z3⟩ := at_ hr e
      exact ix_tup value slice pins s σ H _ _ u1 u2 Q I r1 r2 ⟨_, _, _, _, rfl, rfl, ht.sq, z1, q _ _ z2 z3⟩ hs
  · -- a list
    cases y <;> simp only [idxD] at e <;> try cases e
    cases h1 with
    | lz hd hl hr =>
      cases h2
      obtain ⟨z, G', z1, z2, z3⟩ := at_ hr e
      exact ix_list value slice pins s σ H _ _ u1 u2 Q I r1 r2 ⟨_, _, _, _, rfl, rfl, .of hl, z1, q _ _ z2 z3⟩ hs
    | lo hl hr =>
      cases h2
      obtain ⟨z, G', z1, z2, z3⟩ := at_ hr e
      exact ix_list value slice pins s σ H _ _ u1 u2 Q I r1 r2 ⟨_, _, _, _, rfl, rfl, .of hl, z1, q _ _ z2 (z3.trans (List.sublist_cons_self _ _))⟩ hs
  · -- a dict
    simp only [idxD] at e
    split at e
    · rename_i hk
      obtain ⟨ky, hy⟩ := keyOk_of hk
      obtain ⟨a, es, j, F, rfl, e2, e4, e5, ej, sub⟩ := h1.dct
      have ev := keyV h2 hy
      subst ev
      cases r1
      rcases look_val hy e4.1 e5 with ⟨z1, _⟩ | ⟨d', u, G', z1, z2, z3, z4⟩
      · rw [z1] at e; cases e
      · rw [z1] at e; cases e
        have g : DGet H a (kV ky) (some u) := by rw [← z2]; exact DGet.k e2
        subst ej
        exact PyProof.Rows.tail_any (dict_typeIs I g) PySem.F.slot_dict_getitem.lookup (d_getItem (by omega) I g r2 fun w' s' I' rw' => ⟨u, H, I', rw', q _ _ z3 (z4.trans sub)⟩) hs
    · cases e
theorem good_idx {ea eb : E} {a b : Expr} {pos : Pos} (hu : X.A.units + 100 < cLine) (ha : Good cf io X ea a) (hb : Good cf io X eb b) (hs : PlainIx b) : Good cf io X (.idx ea eb) (.Subscript a b pos) := by
  refine .of (PE.imp (pe_ix (ixr_idx hu) ha.val hb.val hs) ?_) rfl
  rintro σ H Q ⟨B, Dz, F, s, R, r, s', h, c⟩
  rw [evE] at h
  refine two R h fun ra rb s2 Dz2 F2 H2 v w G1 G2 t R2 o1 o2 g1 _ _ h => ?_
  split at h
  · rename_i d e
    cases h
    obtain ⟨_, p2⟩ := o2.rp
    cases ra with
    | ow k x =>
      refine ⟨Dz2, _, _, _, _, _, _, d, o1.1, p2, e, fun v' G' rp sub => ?_⟩
      exact c Dz2 F2 H2 v' G' t R2 ⟨rp, o1.2.1.sublist sub, fun a m => o1.2.2 a (sub.subset m)⟩ fun a m => g1 a (sub.subset m)
    | bo src k x =>
      obtain ⟨_, G', q1, q2⟩ := o1
      refine ⟨Dz2, _, _, _, _, _, _, d, q1, p2, e, fun v' G'' rp sub => ?_⟩
      by_cases hk : k ≤ 1
      · simp only [RV.el, if_pos hk] at c
        have e0 : k - 1 = 0 := by omega
        rw [e0] at rp
        obtain rfl := rp.nil0
        exact c.val t R2 rp
      · simp only [RV.el, if_neg hk] at c
        exact c Dz2 F2 H2 v' [] t R2 ⟨rfl, G'', rp, fun a m => q2 a (sub.subset m)⟩ fun _ m => by cases m
  · cases h

/-! ### a part -/
theorem bnd_ix (n d : Nat) (i : Int) : bnd n i = HT.sIx n d (some i) := by
  show (if 0 ≤ i then min i.toNat n else (i + n).toNat) = if i < 0 then (i + (n : Int)).toNat else min i.toNat n
  by_cases h : 0 ≤ i
  · rw [if_pos h, if_neg (by omega)]
  · rw [if_neg h, if_pos (by omega)]
theorem slcL_cut {xs : List V} {lo hi : Option Int} : slcL xs lo hi = cutV xs lo hi := by
  unfold slcL cutV
  have h1 : (lo.map (bnd xs.length)).getD 0 = HT.sIx xs.length 0 lo := by
    cases lo with
    | none => rfl
    | some i => exact bnd_ix _ _ _
  have h2 : (hi.map (bnd xs.length)).getD xs.length = HT.sIx xs.length xs.length hi := by
    cases hi with
    | none => rfl
    | some i => exact bnd_ix _ _ _
  simp only [h1, h2]
  rw [List.drop_take]
theorem Rps.slc0 {K : PySem.W.Frag} {H : Hp} {Dz : Addr → Prop} {a : List D} {v : List V} (lo hi : Option Int) (h : Rps K H Dz 0 a v []) : Rps K H Dz 0 (slcL a lo hi) (slcL v lo hi) [] := by
  unfold slcL
  simp only [h.len]
  exact (h.take0 _).drop0 _
def rSlc (K : PySem.W.Frag) : V → Option Int → Option Int → Hp → VK → Prop := fun v lo hi H Q => ∃ (Dz : Addr → Prop) (k : Nat) (x : D) (G : List Addr) (j : Nat) (d : D), k ≤ 1 ∧ (∀ a, Dz a → H a ≠ none) ∧ Rp K H Dz k x v G ∧ slcD x lo hi = some (j, d) ∧ Fin K H Dz j d Q
theorem slr_slc : SlR X (rSlc X.K) := by
  intro pins s σ H v ov vl vu lo hi sl Q I rx hs pl pu h
  obtain ⟨Dz, k, x, G, j, d, hk, tk, h1, e, f⟩ := h
  cases x <;> simp only [slcD] at e <;> cases e
  · obtain ⟨a, vs, rfl, hq, hr⟩ := h1.tup1 hk
    refine sl_tupU pins s σ H _ _ vl vu lo hi sl Q I rx hs pl pu ⟨a, vs, rfl, hq, fun hw => ?_, by rw [← slcL_cut]; exact f.tup tk (hr.slc0 lo hi)⟩
    have hr2 := hr.slc0 lo hi
    have e2 : slcL vs lo hi = vs := by
      rw [slcL_cut]
      unfold cutV
      rw [hw.1, hw.2]
      simp
    rw [e2] at hr2
    exact f.val tk (.tup hq hr2)
  · obtain ⟨a, vs, rfl, hq, hr⟩ := h1.lst1 hk
    exact sl_list pins s σ H _ _ vl vu lo hi sl Q I rx hs pl pu ⟨a, vs, rfl, .of hq, by rw [← slcL_cut]; exact f.lst tk (hr.slc0 lo hi)⟩
/-- a bound -/
def tO (cf : Nat → List Arg → Rs) (io : List Nat) (K : PySem.W.Frag) (e : Option E) : TO := fun σ H Q => ∃ (B Dz : Addr → Prop) (F : Nat → List Addr) (s : Sl), Rel K B Dz F s σ H ∧ ∃ o s', evO cf io e s = .ok o s' ∧
  ∀ (Dz' : Addr → Prop) (F' : Nat → List Addr) (H' : Hp), Tr (E.mutso e) Dz F H Dz' F' H' → Rel K B Dz' F' s' σ H' → Q o H'
theorem PO.imp {X : Cx} {e : Option Expr} {t u : TO} (h : PO X e u) (i : ∀ σ H Q, t σ H Q → u σ H Q) : PO X e t := ⟨fun pins s σ H Q I q => h.run pins s σ H Q I (i σ H Q q)⟩
theorem good_none : PO X none (tO cf io X.K none) := by
  refine PO.imp po_none ?_
  rintro σ H Q ⟨B, Dz, F, s, R, o, s', h, c⟩
  rw [evO] at h
  cases h
  exact c Dz F H (Tr.refl _) R
theorem good_some {e : E} {pe : Expr} (h : Good cf io X e pe) : PO X (some pe) (tO cf io X.K (some e)) := by
  refine PO.imp (po_some h.val) ?_
  rintro σ H Q ⟨B, Dz, F, s, R, o, s', q, c⟩
  rw [evO] at q
  obtain ⟨ra, s1, ea, q⟩ := Ev.bind_ok q
  split at q
  · rename_i i ei
    cases q
    exact tE.next cf io R ea fun Dz1 F1 H1 v G1 t1 R1 o1 g1 => ⟨i, o1.int ei, c Dz1 F1 H1 t1 R1⟩
  · cases q
theorem good_slc {ea : E} {a : Expr} {lo hi : Option E} {l h : Option Expr} {pos p2 : Pos} (ha : Good cf io X ea a) (hl : PO X l (tO cf io X.K lo)) (hh : PO X h (tO cf io X.K hi)) : Good cf io X (.slc ea lo hi) (.Subscript a (.Slice l h none p2) pos) := by
  refine .of (PE.imp (pe_slice slr_slc ha.val hl hh) ?_) rfl
  rintro σ H Q ⟨B, Dz, F, s, R, r, s', q, c⟩
  rw [evE] at q
  obtain ⟨ra, s1, e1, q⟩ := Ev.bind_ok q
  split at q
  · cases q
  rename_i hc
  obtain ⟨ol, s2, e2, q⟩ := Ev.bind_ok q
  obtain ⟨oh, s3, e3, q⟩ := Ev.bind_ok q
  have c1 : clash ra.src (E.mutso lo) = false ∧ clash ra.src (E.mutso hi) = false := by
    have : clash ra.src (E.mutso lo ++ E.mutso hi) = false := by simpa using hc
    unfold clash at this ⊢
    rw [List.any_eq_false] at this
    exact ⟨List.any_eq_false.mpr fun i hi => by have := this i hi; simp at this ⊢; exact this.1, List.any_eq_false.mpr fun i hi => by have := this i hi; simp at this ⊢; exact this.2⟩
  split at q
  · rename_i x ex
    obtain ⟨k, d, e, rfl, rfl⟩ := rk_ok q
    refine tE.next cf io R e1 fun Dz1 F1 H1 v G1 t1 R1 o1 g1 => ⟨B, Dz1, F1, s1, R1, ol, s2, e2, fun Dz2 F2 H2 t2 R2 => ⟨B, Dz2, F2, s2, R2, oh, s', e3, fun Dz3 F3 H3 t3 R3 => ?_⟩⟩
    have o3 := (o1.tr R1 t2 c1.1).tr R2 t3 c1.2
    obtain ⟨k1, G1', hk1, p1⟩ := sh_rp o3 ex
    have tt : Tr (E.muts (.slc ea lo hi)) Dz F H Dz3 F3 H3 := ((t1.trans t2).trans t3).mono fun i hi => hi
    exact ⟨Dz3, k1, x, G1', k, d, hk1, R3.tk, p1, e, c.fin tt R3⟩
  · cases q
end Ti
end

section
/-! sorting of tuples that differ ahead of what cannot be compared -/
namespace Ti
open PySem PySem.SeqAt PyProof.Rows PySem.W PySem.Calls

mutual
/-- the two can be compared, as far as it is asked -/
def cmpP : PyData → PyData → Bool
  | .tuple u, .tuple v => cmpPs u v
  | x, y => alike x y
def cmpPs : List PyData → List PyData → Bool
  | p :: u, q :: v => cmpP p q && (!PyData.eqv p q || cmpPs u v)
  | [], _ => true
  | _ :: _, [] => true
end
theorem cmpPs_cons {p q : PyData} {u v : List PyData} (h : cmpPs (p :: u) (q :: v) = true) : cmpP p q = true ∧ (PyData.eqv p q = true → cmpPs u v = true) := by
  rw [cmpPs, Bool.and_eq_true, Bool.or_eq_true, Bool.not_eq_true'] at h
  exact ⟨h.1, fun e => h.2.resolve_left fun z => by rw [e] at z; cases z⟩
theorem cmpP_other {x y : PyData} (h : ∀ u, x ≠ .tuple u) : cmpP x y = alike x y := by
  cases x <;> first | (exact absurd rfl (h _)) | (cases y <;> first | rfl | (rw [cmpP]; intro u v e; cases e))
theorem cmpP_none (y : PyData) : cmpP .none y = alike .none y := cmpP_other fun _ e => nomatch e
theorem cmpP_bool (b : Bool) (y : PyData) : cmpP (.bool b) y = alike (.bool b) y := cmpP_other fun _ e => nomatch e
theorem cmpP_int (b : Int) (y : PyData) : cmpP (.int b) y = alike (.int b) y := cmpP_other fun _ e => nomatch e
theorem cmpP_str (b : Str) (y : PyData) : cmpP (.str b) y = alike (.str b) y := cmpP_other fun _ e => nomatch e
theorem cmpP_list (b : List PyData) (y : PyData) : cmpP (.list b) y = alike (.list b) y := cmpP_other fun _ e => nomatch e
theorem cmpP_dict (b) (y : PyData) : cmpP (.dict b) y = alike (.dict b) y := cmpP_other fun _ e => nomatch e
theorem cmpP_tuple {u : List PyData} {y : PyData} (h : cmpP (.tuple u) y = true) : ∃ v, y = .tuple v ∧ cmpPs u v = true := by
  cases y with
  | tuple v => exact ⟨v, rfl, by simpa [cmpP] using h⟩
  | _ => exact absurd h (by simp [cmpP, alike])
mutual
theorem cmpP_of : ∀ (x y : PyData), alike x y = true → cmpP x y = true
  | .tuple u, y, h => by
    cases y with
    | tuple v =>
      rw [cmpP]
      exact cmpPs_of u v (by simpa [alike] using h)
    | _ => exact absurd h (by simp [alike])
  | .none, y, h => by rw [cmpP_none]; exact h
  | .bool _, y, h => by rw [cmpP_bool]; exact h
  | .int _, y, h => by rw [cmpP_int]; exact h
  | .str _, y, h => by rw [cmpP_str]; exact h
  | .list _, y, h => by rw [cmpP_list]; exact h
  | .dict _, y, h => by rw [cmpP_dict]; exact h
theorem cmpPs_of : ∀ (u v : List PyData), alikeAll u v = true → cmpPs u v = true
  | [], _, _ => by simp [cmpPs]
  | _ :: _, [], _ => by simp [cmpPs]
  | x :: u, y :: v, h => by
    obtain ⟨a, b⟩ := alike_all_cons h
    rw [cmpPs, cmpP_of x y a, cmpPs_of u v b]
    simp
end
mutual
theorem toksP : ∀ (x y : PyData), cmpP x y = true → (PyData.eqv x y = true → keyToks x = keyToks y) ∧ (PyData.eqv x y = false → ∀ l m, PyProof.Rows.lexLt itemOrd (keyToks x ++ l) (keyToks y ++ m) = PyProof.Rows.lexLt itemOrd (keyToks x) (keyToks y))
  | .tuple u, y, h => by
    obtain ⟨v, rfl, h⟩ := cmpP_tuple h
    have t := toksPs u v h
    simp only [keyToks, PyData.eqv]
    exact t
  | .none, y, h => toks_eqv _ _ (by rwa [cmpP_none] at h)
  | .bool _, y, h => toks_eqv _ _ (by rwa [cmpP_bool] at h)
  | .int _, y, h => toks_eqv _ _ (by rwa [cmpP_int] at h)
  | .str _, y, h => toks_eqv _ _ (by rwa [cmpP_str] at h)
  | .list _, y, h => toks_eqv _ _ (by rwa [cmpP_list] at h)
  | .dict _, y, h => toks_eqv _ _ (by rwa [cmpP_dict] at h)
theorem toksPs : ∀ (u v : List PyData), cmpPs u v = true → (PyData.eqvAll u v = true → keyToksAll u = keyToksAll v) ∧ (PyData.eqvAll u v = false → ∀ l m, PyProof.Rows.lexLt itemOrd (keyToksAll u ++ l) (keyToksAll v ++ m) = PyProof.Rows.lexLt itemOrd (keyToksAll u) (keyToksAll v))
  | [], v, _ => toksAll_eqv [] v (by simp [alikeAll])
  | x :: u, [], _ => toksAll_eqv (x :: u) [] (by simp [alikeAll])
  | x :: u, y :: v, h => by
    obtain ⟨hc, hr⟩ := cmpPs_cons h
    obtain ⟨a1, a2⟩ := toksP x y hc
    rw [eqv_all_cons, toks_all_cons, toks_all_cons]
    cases hx : PyData.eqv x y with
    | true =>
      obtain ⟨b1, b2⟩ := toksPs u v (hr hx)
      rw [a1 hx, Bool.true_and]
      refine ⟨fun e => by rw [b1 e], fun e l m => ?_⟩
      simp only [List.cons_append, List.append_assoc]
      rw [lex_self (O := itemOrd), lex_pre, b2 e l m, lex_self (O := itemOrd), lex_pre]
    | false =>
      rw [Bool.false_and]
      refine ⟨fun e => absurd e Bool.false_ne_true, fun _ l m => ?_⟩
      simp only [List.cons_append, List.append_assoc]
      rw [lex_self (O := itemOrd), lex_self (O := itemOrd), a2 hx, a2 hx]
end
theorem ltP_yes {x y : PyData} {u v : List PyData} (h : cmpP x y = true) (e : PyData.eqv x y = true) : PyProof.Rows.lexLt itemOrd (keyToksAll (x :: u)) (keyToksAll (y :: v)) = PyProof.Rows.lexLt itemOrd (keyToksAll u) (keyToksAll v) := by
  rw [toks_all_cons, toks_all_cons, (toksP x y h).1 e, lex_self (O := itemOrd), lex_pre]
theorem ltP_no {x y : PyData} {u v : List PyData} (h : cmpP x y = true) (e : PyData.eqv x y = false) : PyProof.Rows.lexLt itemOrd (keyToksAll (x :: u)) (keyToksAll (y :: v)) = dataLt x y := by
  rw [toks_all_cons, toks_all_cons, lex_self (O := itemOrd), (toksP x y h).2 e]
  rfl
/-- the first place that differs -/
theorem firstP : ∀ (u v : List PyData), cmpPs u v = true →
    firstLt (pairEq u v) (fun j => dataLt (u.getD j .none) (v.getD j .none)) (decide (u.length < v.length)) (List.range (min u.length v.length)) = PyProof.Rows.lexLt itemOrd (keyToksAll u) (keyToksAll v)
  | [], v, _ => firstLt_toks [] v (by simp [alikeAll])
  | x :: u, [], _ => firstLt_toks (x :: u) [] (by simp [alikeAll])
  | x :: u, y :: v, h => by
    obtain ⟨hc, hr⟩ := cmpPs_cons h
    have em : min (x :: u).length (y :: v).length = min u.length v.length + 1 := by
      rw [List.length_cons, List.length_cons]
      omega
    have ed : decide ((x :: u).length < (y :: v).length) = decide (u.length < v.length) := by
      rw [List.length_cons, List.length_cons]
      exact decide_eq_decide.mpr (by omega)
    rw [em, ed, List.range_succ_eq_map]
    cases hx : PyData.eqv x y with
    | true =>
      have ih := firstP u v (hr hx)
      rw [firstLt_yes (show pairEq (x :: u) (y :: v) 0 = true from hx), firstLt_map, ltP_yes hc hx, ← ih]
      rfl
    | false =>
      rw [firstLt_no (show pairEq (x :: u) (y :: v) 0 = false from hx), ltP_no hc hx]
      rfl
mutual
theorem reflP : ∀ d : PyData, cmpP d d = true → PyData.eqv d d = true
  | .tuple u, h => by
    rw [cmpP] at h
    rw [PyData.eqv]
    exact reflPs u h
  | .none, h => eqv_refl_alike _ (by rwa [cmpP_none] at h)
  | .bool _, h => eqv_refl_alike _ (by rwa [cmpP_bool] at h)
  | .int _, h => eqv_refl_alike _ (by rwa [cmpP_int] at h)
  | .str _, h => eqv_refl_alike _ (by rwa [cmpP_str] at h)
  | .list _, h => eqv_refl_alike _ (by rwa [cmpP_list] at h)
  | .dict _, h => eqv_refl_alike _ (by rwa [cmpP_dict] at h)
theorem reflPs : ∀ u : List PyData, cmpPs u u = true → PyData.eqvAll u u = true
  | [], _ => by simp [PyData.eqvAll]
  | x :: u, h => by
    obtain ⟨hc, hr⟩ := cmpPs_cons h
    have e := reflP x hc
    rw [eqv_all_cons, e, reflPs u (hr e)]
    rfl
end
mutual
theorem onlyP {h : Heap} : ∀ (d d' : PyData) (v : Value) (as as' : List Addr), cmpP d d' = true → Reads h v d as → Reads h v d' as' → d = d'
  | .tuple u, d', _, _, _, ha, r, r' => by
    obtain ⟨w, rfl, ha⟩ := cmpP_tuple ha
    cases r with
    | tuple h1 h2 h3 h4 =>
      cases r' with
      | tuple k1 k2 k3 k4 =>
        rw [h1] at k1; cases k1
        rw [h3] at k3; cases k3
        rw [onlyPs u w _ _ _ ha h4 k4]
  | .none, d', v, as, as', ha, r, r' => alike_unique _ _ v as as' (by rwa [cmpP_none] at ha) r r'
  | .bool _, d', v, as, as', ha, r, r' => alike_unique _ _ v as as' (by rwa [cmpP_bool] at ha) r r'
  | .int _, d', v, as, as', ha, r, r' => alike_unique _ _ v as as' (by rwa [cmpP_int] at ha) r r'
  | .str _, d', v, as, as', ha, r, r' => alike_unique _ _ v as as' (by rwa [cmpP_str] at ha) r r'
  | .list _, d', v, as, as', ha, r, r' => alike_unique _ _ v as as' (by rwa [cmpP_list] at ha) r r'
  | .dict _, d', v, as, as', ha, r, r' => alike_unique _ _ v as as' (by rwa [cmpP_dict] at ha) r r'
theorem onlyPs {h : Heap} : ∀ (u w : List PyData) (vs : List Value) (as as' : List Addr), cmpPs u w = true → ReadsAll h vs u as → ReadsAll h vs w as' → u = w
  | [], _, _, _, _, _, r, r' => by cases r; cases r'; rfl
  | x :: u, [], _, _, _, _, r, r' => by cases r'; cases r
  | x :: u, y :: w, _, _, _, ha, r, r' => by
    obtain ⟨hc, hr⟩ := cmpPs_cons ha
    cases r with
    | cons h1 h2 =>
      cases r' with
      | cons k1 k2 =>
        obtain rfl := onlyP x y _ _ _ hc h1 k1
        rw [onlyPs u w _ _ _ (hr (reflP x hc)) h2 k2]
end
end Ti

namespace PySem.SeqAt
open AutoSeq1 (wpAny_loadPart')
open MeetsSeq MeetsSeq2 MeetsSeq3 SeqRoads2
/-- <, where only the first place that differs is asked -/
theorem tupLtP (l b : Addr) (xs ys : Array Value) (n n2 : Nat) (dd dd2 : Option Addr) (sl sl2 : Array (Option Value)) (e r : Nat → Bool) :
    Meets (Builtin.«tuple.__lt__» ⟨[.ref l, .ref b], []⟩)
      (fun A R s => s.heap.get? l = some { cls := .type "tuple", dict := dd, data := .seq xs n, slots := sl } ∧ s.heap.get? b = some { cls := .type "tuple", dict := dd2, data := .seq ys n2, slots := sl2 } ∧
        (∀ j (h1 : j < xs.size) (h2 : j < ys.size), EqAt A.in1 s xs[j] ys[j] (e j)) ∧ (∀ j (h1 : j < xs.size) (h2 : j < ys.size), e j = false → (∀ i, i < j → e i = true) → RcLt A.in1 s xs[j] ys[j] (r j)) ∧
        R (.ok (.ret (.bool (firstLt e r (decide (xs.size < ys.size)) (List.range (min xs.size ys.size)))))) s) :=
  .of_wp fun prog w A R s h => by
    obtain ⟨hp, g, d, tk, os⟩ := s; obtain ⟨hl, hb, he, hr, h⟩ := h
    have f2 := AutoSeq1.sub_tuple_tuple
    have hZ : (xs.toList.zip ys.toList).length = min xs.size ys.size := by simp
    wp_walk using wpAny_loadPart' hl, wpAny_loadPart' hb, wpAny_forIn_list _ (fun rest b s' => b.1 = none ∧ s' = ⟨hp, g, d, tk, os⟩ ∧ ∃ i, rest = (xs.toList.zip ys.toList).drop i ∧ (∀ q, q < i → e q = true) ∧
      R (.ok (.ret (.bool (firstLt e r (decide (xs.size < ys.size)) ((List.range (min xs.size ys.size)).drop i))))) ⟨hp, g, d, tk, os⟩) _
    case turn =>
      rintro ⟨y, x⟩ rest b s' ⟨hb', rfl, i, hz, hbe, hR⟩
      have hlt : i < (xs.toList.zip ys.toList).length := by
        rcases Nat.lt_or_ge i (xs.toList.zip ys.toList).length with h' | h'
        · exact h'
        · rw [List.drop_of_length_le h'] at hz; cases hz
      have hm : i < min xs.size ys.size := hZ ▸ hlt
      have h1 : i < xs.size := Nat.lt_of_lt_of_le hm (Nat.min_le_left _ _)
      have h2 : i < ys.size := Nat.lt_of_lt_of_le hm (Nat.min_le_right _ _)
      rw [List.drop_eq_getElem_cons hlt] at hz
      injection hz with hyx hrest
      have hy : y = xs[i] := by have := congrArg Prod.fst hyx; simpa using this
      have hx : x = ys[i] := by have := congrArg Prod.snd hyx; simpa using this
      subst hy hx
      have hd : (List.range (min xs.size ys.size)).drop i = i :: (List.range (min xs.size ys.size)).drop (i + 1) := by simp [List.drop_eq_getElem_cons, hm]
      rw [hd] at hR
      refine wpAny_bind (he i h1 h2 prog w _ _ ?_)
      cases hy : e i with
      | true =>
        rw [firstLt_yes hy] at hR
        wp_walk
        refine ⟨rfl, rfl, i + 1, hrest, fun q hq => ?_, hR⟩
        by_cases z : q = i
        · rw [z]; exact hy
        · exact hbe q (by omega)
      | false =>
        rw [firstLt_no hy] at hR
        have hrr := fun Q E => hr i h1 h2 hy hbe prog w Q E
        generalize hprg : PySem.richCompare CmpOp.Lt xs[i] ys[i] = prg at hrr ⊢
        wp_walk
        refine hrr _ _ ?_
        wp_walk
        exact ⟨_, rfl, hR⟩
    case fin =>
      rintro ⟨b1, b2⟩ s' ⟨hb', rfl, i, hz, hbe, hR⟩
      simp only at hb'
      subst hb'
      have hge : min xs.size ys.size ≤ i := by
        rcases Nat.lt_or_ge i (xs.toList.zip ys.toList).length with h' | h'
        · rw [List.drop_eq_getElem_cons h'] at hz; cases hz
        · exact hZ ▸ h'
      rw [List.drop_of_length_le (by simpa using hge)] at hR
      wp_walk
      exact ⟨_, rfl, by simpa [Builtin.Tuple.tupleCompareSizes, firstLt] using hR⟩
    case h =>
      exact ⟨rfl, rfl, 0, rfl, fun q hq => absurd hq (Nat.not_lt_zero q), by simpa using h⟩
theorem rcLtP {A : Around} {s : Shared} {l b : Addr} {xs ys : Array Value} {e r : Nat → Bool} (hl : s.heap.IsTuple l xs) (hb : s.heap.IsTuple b ys) (hu : A.units < cLine)
    (he : ∀ j (h1 : j < xs.size) (h2 : j < ys.size), EqAt A.in1 s xs[j] ys[j] (e j)) (hr : ∀ j (h1 : j < xs.size) (h2 : j < ys.size), e j = false → (∀ i, i < j → e i = true) → RcLt A.in1 s xs[j] ys[j] (r j)) :
    RcLt A s (.ref l) (.ref b) (firstLt e r (decide (xs.size < ys.size)) (List.range (min xs.size ys.size))) := fun prog w E Q h => by
  obtain ⟨⟨cls, dd, data, sl⟩, ho, hc, n, hd⟩ := id hl
  obtain ⟨⟨cls2, dd2, data2, sl2⟩, ho2, hc2, n2, hd2⟩ := id hb
  simp only at hc hd hc2 hd2
  subst hc hd hc2 hd2
  refine richCompare_meets_room (op := .Lt) ⟨_, ho, rfl⟩ ⟨_, ho2, rfl⟩ F.slot_tuple_lt F.entry_tuple_lt (F.args_tuple_lt_2 _ _) (tupLtP l b xs ys n n2 dd dd2 sl sl2 e r) ⟨ho, ho2, he, hr, ?_⟩ hu
  exact ⟨(fun x => nomatch x), h⟩
end PySem.SeqAt

namespace Ti
open PySem PySem.SeqAt PyProof.Rows PySem.W PySem.Calls
theorem pairP : ∀ (u v : List PyData) (j : Nat), j < u.length → j < v.length → cmpPs u v = true → (∀ i, i < j → pairEq u v i = true) → cmpP (u.getD j .none) (v.getD j .none) = true
  | [], _, _, h, _, _, _ => absurd h (Nat.not_lt_zero _)
  | _ :: _, [], _, _, h, _, _ => absurd h (Nat.not_lt_zero _)
  | x :: u, y :: v, 0, _, _, h, _ => (cmpPs_cons h).1
  | x :: u, y :: v, j + 1, h1, h2, h, hb => by
    obtain ⟨hc, hr⟩ := cmpPs_cons h
    have e : PyData.eqv x y = true := hb 0 (Nat.succ_pos _)
    exact pairP u v j (Nat.lt_of_succ_lt_succ h1) (Nat.lt_of_succ_lt_succ h2) (hr e) fun i hi => hb (i + 1) (Nat.succ_lt_succ hi)
theorem nnP {x y : PyData} (h : cmpP x y = true) (e : PyData.eqv x y = false) : x ≠ .none := by
  rintro rfl
  rw [cmpP_none] at h
  exact ne_none_of h e rfl
mutual
/-- a < b -/
theorem rcP : ∀ (da db : PyData) (A : Around) (s : Shared) (a b : Value) (as bs : List Addr), Reads s.heap a da as → Reads s.heap b db bs → da.canLay0 = true → db.canLay0 = true → cmpP da db = true → da ≠ .none → A.units + min da.depth db.depth < cLine → RcLt A s a b (dataLt da db)
  | .tuple u, db, A, s, a, b, as, bs, ra, rb, la, lb, h, _, hu => by
    obtain ⟨v, rfl, h⟩ := cmpP_tuple h
    cases ra with
    | @tuple l o vs n _ as₁ h1 h2 h3 h4 =>
      cases rb with
      | @tuple l' o' vs' n' _ bs₁ k1 k2 k3 k4 =>
        have n1 : vs.size = u.length := by simpa using SeqAt.ReadsAll.length _ _ _ h4
        have n2 : vs'.size = v.length := by simpa using SeqAt.ReadsAll.length _ _ _ k4
        have la' : PyData.canLayAll0 u = true := by simpa [PyData.canLay0] using la
        have lb' : PyData.canLayAll0 v = true := by simpa [PyData.canLay0] using lb
        rw [dataLt_tuple, ← firstP u v h, ← n1, ← n2]
        refine rcLtP ⟨_, h1, h2, _, h3⟩ ⟨_, k1, k2, _, k3⟩ (room_here hu) (fun j j1 j2 => ?_) fun j j1 j2 hj hbe => ?_
        · have := eqAt_readsAll u v A.in1 s vs.toList vs'.toList _ _ h4 k4 la' lb' (room_in hu) j (by simpa using j1) (by simpa using j2)
          simpa using this
        · have := rcPs u v A.in1 s vs.toList vs'.toList _ _ h4 k4 la' lb' h (room_in hu) j (by simpa using j1) (by simpa using j2) hj hbe
          simpa using this
  | .none, _, _, _, _, _, _, _, _, _, _, _, _, hn, _ => absurd rfl hn
  | .bool _, db, A, s, a, b, as, bs, ra, rb, _, _, h, hn, hu => rcLt_alike _ _ A s a b as bs ra rb (by rwa [cmpP_bool] at h) hn hu
  | .int _, db, A, s, a, b, as, bs, ra, rb, _, _, h, hn, hu => rcLt_alike _ _ A s a b as bs ra rb (by rwa [cmpP_int] at h) hn hu
  | .str _, db, A, s, a, b, as, bs, ra, rb, _, _, h, hn, hu => rcLt_alike _ _ A s a b as bs ra rb (by rwa [cmpP_str] at h) hn hu
  | .list _, db, A, s, a, b, as, bs, ra, rb, _, _, h, hn, hu => rcLt_alike _ _ A s a b as bs ra rb (by rwa [cmpP_list] at h) hn hu
  | .dict _, db, A, s, a, b, as, bs, ra, rb, _, _, h, hn, hu => rcLt_alike _ _ A s a b as bs ra rb (by rwa [cmpP_dict] at h) hn hu
theorem rcPs : ∀ (u v : List PyData) (A : Around) (s : Shared) (vs ws : List Value) (as bs : List Addr), ReadsAll s.heap vs u as → ReadsAll s.heap ws v bs → PyData.canLayAll0 u = true → PyData.canLayAll0 v = true → cmpPs u v = true →
    A.units + min (PyData.depthAll u) (PyData.depthAll v) < cLine → ∀ j (h1 : j < vs.length) (h2 : j < ws.length), pairEq u v j = false → (∀ i, i < j → pairEq u v i = true) → RcLt A s vs[j] ws[j] (dataLt (u.getD j .none) (v.getD j .none))
  | [], _, _, _, _, _, _, _, ra, _, _, _, _, _, j, h1, _, _, _ => by cases ra; exact absurd h1 (Nat.not_lt_zero _)
  | _ :: _, [], _, _, _, _, _, _, _, rb, _, _, _, _, j, _, h2, _, _ => by cases rb; exact absurd h2 (Nat.not_lt_zero _)
  | x :: u, y :: v, A, s, _, _, _, _, ra, rb, la, lb, h, hu, j, h1, h2, hj, hbe => by
    obtain ⟨hc, hr⟩ := cmpPs_cons h
    have la' : x.canLay0 = true ∧ PyData.canLayAll0 u = true := by simpa [PyData.canLayAll0] using la
    have lb' : y.canLay0 = true ∧ PyData.canLayAll0 v = true := by simpa [PyData.canLayAll0] using lb
    cases ra with
    | cons r rs =>
      cases rb with
      | cons r' rs' =>
        cases j with
        | zero => exact rcP x y A s _ _ _ _ r r' la'.1 lb'.1 hc (nnP hc hj) (room_head hu)
        | succ j => exact rcPs u v A s _ _ _ _ rs rs' la'.2 lb'.2 (hr (hbe 0 (Nat.succ_pos _))) (room_tail hu) j (Nat.lt_of_succ_lt_succ h1) (Nat.lt_of_succ_lt_succ h2) hj fun i hi => hbe (i + 1) (Nat.succ_lt_succ hi)
end
section
variable {prog : Program} {w : World} {A : Around} {E : Value → Shared → Prop} {s : Shared}
theorem oneP {f : Bool} {da db : PyData} {a b : Value} {as bs : List Addr} {Q : Bool → Shared → Prop} (hf : f = true → ∀ xs, da ≠ .tuple xs) (ra : Reads s.heap a da as) (rb : Reads s.heap b db bs) (la : da.canLay0 = true) (lb : db.canLay0 = true) (h : cmpP da db = true) (hn : da ≠ .none)
    (hu : A.units + min da.depth db.depth < cLine) (hq : Q (dataLt da db) s) : wpAny (model prog w) A (oneLt' f a b) Q E s := by
  cases f with
  | false =>
    rw [oneLt'_eq]
    simp only [Bool.false_eq_true, if_false]
    exact wpAny_bind (rcP da db A s a b as bs ra rb la lb h hn hu prog w E _ (wpAny_truthy_bool hq))
  | true => exact oneLt_alike hf ra rb (by rwa [cmpP_other (hf rfl)] at h) hn hu hq
theorem katP {b fin : Bool} {Q : Bool → Shared → Prop} : ∀ (u v : List PyData) (i : Nat) (vs ws : List Value) (as bs : List Addr), ReadsAll s.heap vs u as → ReadsAll s.heap ws v bs → PyData.canLayAll0 u = true → PyData.canLayAll0 v = true → cmpPs u v = true →
    A.units + min (PyData.depthAll u) (PyData.depthAll v) < cLine → (b = true → i = 0 → ∀ x r t, u = x :: r → x ≠ .tuple t) → fin = decide (u.length < v.length) → Q (PyProof.Rows.lexLt itemOrd (keyToksAll u) (keyToksAll v)) s → KatLex prog w A b fin Q (vs.zip ws) i s
  | [], v, i, vs, ws, as, bs, ra, rb, _, _, _, hu, hb, hf, hq => katLex_alike [] v i vs ws as bs ra rb (by simp [alikeAll]) hu hb hf hq
  | x :: u, [], i, vs, ws, as, bs, ra, rb, _, _, _, hu, hb, hf, hq => katLex_alike (x :: u) [] i vs ws as bs ra rb (by simp [alikeAll]) hu hb hf hq
  | x :: u, y :: v, i, _, _, _, _, ra, rb, la, lb, h, hu, hb, hf, hq => by
    obtain ⟨hc, hr⟩ := cmpPs_cons h
    have la' : x.canLay0 = true ∧ PyData.canLayAll0 u = true := by simpa [PyData.canLayAll0] using la
    have lb' : y.canLay0 = true ∧ PyData.canLayAll0 v = true := by simpa [PyData.canLayAll0] using lb
    have hf' : fin = decide (u.length < v.length) := by rw [hf]; simp only [List.length_cons, Nat.add_lt_add_iff_right]
    cases ra with
    | cons r rs =>
      cases rb with
      | cons r' rs' =>
        rw [List.zip_cons_cons]
        refine kat_cons (eqAt_reads x y A s _ _ _ _ r r' la'.1 lb'.1 (room_head hu) prog w _ _ ?_)
        cases hx : PyData.eqv x y with
        | true =>
          rw [ltP_yes hc hx] at hq
          exact kat_yes (katP u v (i + 1) _ _ _ _ rs rs' la'.2 lb'.2 (hr hx) (room_tail hu) (fun _ hi => absurd hi (Nat.succ_ne_zero i)) hf' hq)
        | false =>
          rw [ltP_no hc hx] at hq
          refine kat_no (oneP (fun hbi t => ?_) r r' la'.1 lb'.1 hc (nnP hc hx) (room_head hu) hq)
          rw [Bool.and_eq_true] at hbi
          exact hb hbi.1 (by simpa using hbi.2) x u t rfl
end
/-- every two can be compared -/
def AllP (ds : List PyData) : Prop := ∀ d, d ∈ ds → ∀ d', d' ∈ ds → cmpP d d' = true
theorem kindP {h : Heap} {ds : List PyData} (hal : AllP ds) {v : Value} {d : PyData} {as : List Addr} (hd : d ∈ ds) (r : Reads h v d as) : (dataKind h ds).keyOf v = some (keyToks d) := by
  have q : ∃ d, d ∈ ds ∧ ∃ as, Reads h v d as := ⟨d, hd, as, r⟩
  have e : (dataKind h ds).keyOf v = some (keyToks q.choose) := dif_pos q
  obtain ⟨h1, as', h2⟩ := q.choose_spec
  rw [e, onlyP _ _ _ _ _ (hal _ h1 _ hd) h2 r]
theorem typeP {x y : PyData} (h : cmpP x y = true) : dataType x = dataType y := by
  cases x with
  | tuple u => obtain ⟨v, rfl, _⟩ := cmpP_tuple h; rfl
  | none => exact dataType_alike (by rwa [cmpP_none] at h)
  | bool _ => exact dataType_alike (by rwa [cmpP_bool] at h)
  | int _ => exact dataType_alike (by rwa [cmpP_int] at h)
  | str _ => exact dataType_alike (by rwa [cmpP_str] at h)
  | list _ => exact dataType_alike (by rwa [cmpP_list] at h)
  | dict _ => exact dataType_alike (by rwa [cmpP_dict] at h)
/-- tuples that can be compared can be sorted -/
theorem sortsP {prog : Program} {w : World} {A : Around} {s : Shared} {vs : List Value} {ds : List PyData} (e : EachIs (fun v d => ∃ as, Reads s.heap v d as) vs ds) (hal : AllP ds) (hl : ∀ d, d ∈ ds → d.canLay0 = true) (ht : ∀ d, d ∈ ds → ∃ x r, d = .tuple (x :: r)) (hu : ∀ d, d ∈ ds → A.units + d.depth < cLine) :
    SortsAt prog w A s (dataKind s.heap ds) vs := by
  refine ⟨fun v hv => ?_, ?_⟩
  · obtain ⟨d, hd, as, r⟩ := e.left v hv
    exact ⟨_, kindP hal hd r⟩
  · cases ds with
    | nil =>
      cases e
      refine ⟨general', fun E x y a b Q ha _ _ => ?_, fun h2 => absurd h2 (by simp)⟩
      obtain ⟨d, _, hd, _⟩ := dataKind_inv ha
      exact absurd hd (by simp)
    | cons d0 ds0 =>
      obtain ⟨x0, r0, e0⟩ := ht d0 List.mem_cons_self
      have hfirst : ∀ x r, PyData.tuple (x :: r) ∈ d0 :: ds0 → cmpP x x0 = true := by
        intro x r hm
        have q := hal _ hm d0 List.mem_cons_self
        rw [e0, cmpP] at q
        exact (cmpPs_cons q).1
      refine ⟨tuples' (dataType x0 != Value.type "tuple"), ?_, fun h2 E Q hq => ?_⟩
      · intro E x y a b Q ha hb hq
        obtain ⟨d, as, hd, ra, rfl⟩ := dataKind_inv ha
        obtain ⟨d', as', hd', rb, rfl⟩ := dataKind_inv hb
        have hdd := hal d hd d' hd'
        have hroom : A.units + min d.depth d'.depth < cLine := Nat.lt_of_le_of_lt (Nat.add_le_add_left (Nat.min_le_left _ _) _) (hu d hd)
        have l1 := hl d hd
        have l2 := hl d' hd'
        obtain ⟨x1, r1, rfl⟩ := ht d hd
        obtain ⟨x2, r2, rfl⟩ := ht d' hd'
        have hq' : Q (dataLt (.tuple (x1 :: r1)) (.tuple (x2 :: r2))) s := hq
        rw [dataLt_tuple] at hq'
        rw [cmpP] at hdd
        cases ra with
        | @tuple l o xs n _ _ h1 h2 h3 h4 =>
          cases rb with
          | @tuple l' o' xs' n' _ _ k1 k2 k3 k4 =>
            have n1 : xs.size = (x1 :: r1).length := by simpa using SeqAt.ReadsAll.length _ _ _ h4
            have n2 : xs'.size = (x2 :: r2).length := by simpa using SeqAt.ReadsAll.length _ _ _ k4
            refine kat_lt h1 h3 k1 k3 (katP (x1 :: r1) (x2 :: r2) 0 _ _ _ _ h4 k4 (by simpa [PyData.canLay0] using l1) (by simpa [PyData.canLay0] using l2) hdd (by have q := SeqAt.room_in hroom; omega) (fun hb _ x r t ex => ?_) (by rw [n1, n2]) hq')
            obtain ⟨rfl, rfl⟩ := List.cons.inj ex
            have q := typeP (hfirst _ _ hd)
            rw [← q] at hb
            exact dataType_tuple hb t
      · obtain ⟨fs, t1, t2, t3⟩ := each_katTups e ht
        refine kat_kind (T := dataType x0) t1 (by omega) (fun f hf => ?_) (beq_self_eq_true _) hq
        obtain ⟨x, r, as, m1, m2⟩ := t3 f hf
        rw [← typeP (hfirst x r m1)]
        exact looks_reads m2
theorem keysP {h : Heap} {ds : List PyData} (hal : AllP ds) {vs : List Value} (e : EachIs (fun v d => ∃ as, Reads h v d as) vs ds) : EachIs (fun v d => (dataKind h ds).keyOf v = some (keyToks d)) vs ds :=
  (each_mem e).mono fun _ _ ⟨⟨_, r⟩, hd⟩ => kindP hal hd r
/-- sorted(xs), tuples that can be compared -/
theorem sortedP {β : Type} {R : Value → β → Prop} {enc : β → PyData} {vs : List Value} {bs : List β} {prog : Program} {w : World} {A : Around} {E : Value → Shared → Prop} {s : Shared} {l : Addr} {Q : Value → Shared → Prop} (hl : s.heap.IsList l vs.toArray) (e : EachIs R vs bs) (er : EachIs (fun v b => ∃ as, Reads s.heap v (enc b) as) vs bs) (hal : AllP (bs.map enc)) (hly : ∀ d, d ∈ bs.map enc → d.canLay0 = true) (ht : ∀ d, d ∈ bs.map enc → ∃ x r, d = .tuple (x :: r)) (hL : bs.length ≤ sizeLine)
    (hu : ∀ b, b ∈ bs → A.units + 2 + (enc b).depth < cLine) (h : ∀ out, out.length = bs.length → EachIs R out (bs.mergeSort (dataLe false enc)) → Q (.ref (s.heap.objs.size + 1)) { s with heap := sortedAll s.heap vs (List.toArray out) }) :
    wpAny (model prog w) A (call (.builtin "sorted") [.ref l]) Q E s := by
  have er' : EachIs (fun v b => ∃ as, Reads (sortingHeap (copyHeap s.heap vs) (s.heap.objs.size + 1) vs) v (enc b) as) vs bs := er.mono fun _ _ ⟨as, r⟩ => ⟨as, PyProof.Rows.Reads.keeps (fun _ _ => sorting_copy_old) r⟩
  have ek : EachIs (fun v d => ∃ as, Reads (sortingHeap (copyHeap s.heap vs) (s.heap.objs.size + 1) vs) v d as) vs (bs.map enc) := each_map (R := fun v d => ∃ as, Reads (sortingHeap (copyHeap s.heap vs) (s.heap.objs.size + 1) vs) v d as) enc er'
  refine sorted_vals hl (sortsP (s := { s with heap := sortingHeap (copyHeap s.heap vs) (s.heap.objs.size + 1) vs }) ek hal hly ht (bound_map hu)) (by rw [e.length]; exact hL) (h _ (by rw [sortVals_length false rfl]; exact e.length) ?_)
  exact sortVals_each (κ := dataKind _ (bs.map enc)) (fun b => keyToks (enc b)) e (each_of_map enc (keysP hal ek))
end Ti
end

section
/-! dicts of nested keys -/
namespace Ti
open PySem PySem.Spec PyProof.Rows L2
variable [PWc]
section
variable {X : Cx} {pins : List (Addr × Obj)} {σ : L2.St} {H : Hp} {s : Shared} {Dz : Addr → Prop}
theorem dno_ok (I : L2.Inv X pins σ H s) {a : Addr} {xs : List (NestedKey × Addr)} (h : H a = some (DNo a xs)) : ∃ w, PWc.w = some w ∧ (a == sysModules) = false ∧ xs.length ≤ sizeLine ∧ (xs.map (·.1)).Nodup ∧
    ∃ (o : Obj) (es : Array DictEntry) (ep : _), s.heap.get? a = some o ∧ o.ExactDict ∧ o.data = .dict es ep ∧ es.toList = xs.map fun x => ⟨x.1.hash w, .ref x.2, .bool true⟩ :=
  (I.hok a _ h).1
/-- list(d) -/
theorem call_listN (hc : X.calm = true) : CallR X (.type "list") (fun vs H Q => ∃ (a : Addr) (xs : List (NestedKey × Addr)), vs = [.ref a] ∧ H a = some (DNo a xs) ∧ ∀ p, H p = none → Q (.ref p) (upd H p (.lst (xs.map fun x => .ref x.2)))) := by
  intro pins s σ H xs0 us Q I r q
  obtain ⟨a, xs, ex, hd, q⟩ := q
  subst ex
  obtain ⟨u, eu, rx⟩ : ∃ u, us = [u] ∧ L2.RelV (.ref a) u := by
    cases r with
    | cons r1 r2 => cases r2; exact ⟨_, rfl, r1⟩
  subst eu
  cases rx
  obtain ⟨w, _, lo, hz, _, o, es, ep, ho, hx, hdat, hes⟩ := dno_ok I hd
  have hsz : es.size = xs.length := by rw [← Array.length_toList, hes, List.length_map]
  have raw : s.heap.DictRaw a es ep := ⟨o, ho, hx, hdat⟩
  refine PySem.W.kdl_call (PySem.KdlSrc.rawDict lo) (I.ok.hd hc) raw (by rw [hsz]; exact hz) fun h' tk acc c' hk hD hacc => ?_
  have hlen : acc.size = xs.length := by rw [hacc.1, hsz]
  have hv : Vals (xs.map fun x => V.ref x.2) acc.toList := by
    have go : ∀ (us : List Value) (ys : List (NestedKey × Addr)), us.length = ys.length → (∀ (j : Nat) (v : Value), us[j]? = some v → ∃ y, ys[j]? = some y ∧ v = .ref y.2) → Vals (ys.map fun x => V.ref x.2) us := by
      intro us
      induction us with
      | nil =>
        intro ys h _
        cases ys with
        | nil => exact .nil
        | cons _ _ => simp at h
      | cons u us ih =>
        intro ys h g
        cases ys with
        | nil => simp at h
        | cons y ys =>
          obtain ⟨y', e1, e2⟩ := g 0 u rfl
          cases e1
          refine .cons ?_ (ih ys (by simpa using h) fun j v e => ?_)
          · rw [e2]; rfl
          · obtain ⟨y', e1, e2⟩ := g (j + 1) v (by simpa using e)
            exact ⟨y', by simpa using e1, e2⟩
    refine go acc.toList xs (by rw [Array.length_toList, hlen]) fun j v e => ?_
    obtain ⟨hi, e2⟩ := hacc.2 j v (by rw [← Array.getElem?_toList]; exact e)
    have hj : j < xs.length := by omega
    refine ⟨xs[j], List.getElem?_eq_getElem hj, ?_⟩
    have e3 : es.toList[j]? = some es[j] := by rw [Array.getElem?_toList]; exact Array.getElem?_eq_getElem hi
    rw [hes, List.getElem?_map, List.getElem?_eq_getElem hj] at e3
    have e4 := Option.some.inj e3
    rw [e2, ← e4]
  refine ⟨.ref s.heap.objs.size, upd H s.heap.objs.size (.lst (xs.map fun x => .ref x.2)), I.laid (t' := tk) hk (Nat.le_refl _) ⟨by rw [List.length_map]; exact hz, acc.toList, c', hv, by rw [Array.toArray_toList]; exact hD⟩, rfl, q _ (I.hok.fresh (Nat.le_refl _))⟩
theorem tup_in (I : L2.Inv X pins σ H s) {a : Addr} {vs : List V} (h : SqU X.K H a vs) : ∃ (o : Obj) (its : Array Value) (n : Nat), s.heap.get? a = some o ∧ o.cls = .type "tuple" ∧ o.data = .seq its n ∧ Vals vs its.toList := by
  rcases h with ⟨o, _, h⟩ | ⟨o, its, n, h1, h2, h3, h4, h5, h6⟩
  · obtain ⟨e, _, its, r, q⟩ := (I.hok a _ h : ObjOk X.prog X.w H s.heap a (.frz o (.tup vs)))
    obtain ⟨o', e', c, n, hd⟩ := q
    exact ⟨o', its.toArray, n, e', c, hd, by simpa using r⟩
  · exact ⟨o, its, n, I.kIn a o h1, h2, h4, h6⟩
mutual
/-- a value that is a key of some depth -/
theorem nk_is (I : L2.Inv X pins σ H s) : ∀ (d : D) {k : Nat} {v : V} {u : Value} {G : List Addr} {q : NestedKey}, Rp X.K H Dz k d v G → nkD d = some q → L2.RelV v u → NestedIs s.heap q u
  | .non, _, _, _, _, _, h, e, r => by
    cases h
    cases e
    cases (show _ = Value.none from r)
    exact .none
  | .int i, _, _, _, _, _, h, e, r => by
    cases h
    cases e
    obtain ⟨t, rfl⟩ := (show ∃ t, _ = Value.int i t from r)
    exact .int _ _
  | .str x, _, _, _, _, _, h, e, r => by
    cases h
    cases e
    obtain ⟨t, rfl⟩ := (show ∃ t, _ = Value.str (Str.ofString x) t from r)
    exact .text _ _
  | .tup xs, _, _, _, _, _, h, e, r => by
    cases h with
    | tup hs hr =>
      rw [nkD, Option.map_eq_some_iff] at e
      obtain ⟨qs, e, rfl⟩ := e
      obtain ⟨o, its, n, h1, h2, h3, h4⟩ := tup_in I hs
      cases r
      exact .tup h1 h2 h3 (nks_is I xs hr e h4)
  | .bl _, _, _, _, _, _, _, e, _ => by simp [nkD] at e
  | .lst _, _, _, _, _, _, _, e, _ => by simp [nkD] at e
  | .dct _, _, _, _, _, _, _, e, _ => by simp [nkD] at e
  | .scr _, _, _, _, _, _, _, e, _ => by simp [nkD] at e
  | .ins _ _, _, _, _, _, _, _, e, _ => by simp [nkD] at e
  | .dcn _, _, _, _, _, _, _, e, _ => by simp [nkD] at e
theorem nks_is (I : L2.Inv X pins σ H s) : ∀ (xs : List D) {k : Nat} {vs : List V} {us : List Value} {G : List Addr} {qs : List NestedKey}, Rps X.K H Dz k xs vs G → nkDs xs = some qs → Vals vs us → NestedAll s.heap qs us
  | [], _, _, _, _, _, h, e, r => by
    cases h
    cases e
    cases r
    exact .nil
  | x :: xs, _, _, _, _, _, h, e, r => by
    cases h with
    | cons h1 h2 =>
      rw [nkDs, Option.bind_eq_some_iff] at e
      obtain ⟨q, e1, e⟩ := e
      rw [Option.map_eq_some_iff] at e
      obtain ⟨qs, e2, rfl⟩ := e
      cases r with
      | cons r1 r2 => exact .cons (nk_is I x h1 e1 r1) (nks_is I xs h2 e2 r2)
end
end
mutual
theorem nk_some : ∀ (n : Nat) (d : D), nkOk n d = true → ∃ q, nkD d = some q ∧ q.depth ≤ n
  | _, .non, _ => ⟨_, rfl, by simp [NestedKey.depth]⟩
  | _, .int i, _ => ⟨_, rfl, by simp [NestedKey.depth]⟩
  | _, .str x, _ => ⟨_, rfl, by simp [NestedKey.depth]⟩
  | 0, .tup xs, h => by simp [nkOk] at h
  | n + 1, .tup xs, h => by
    rw [nkOk] at h
    obtain ⟨qs, e, l⟩ := nks_some n xs h
    exact ⟨.tup qs, by rw [nkD, e]; rfl, by rw [NestedKey.depth]; omega⟩
  | n, .bl _, h => by cases n <;> simp [nkOk] at h
  | n, .lst _, h => by cases n <;> simp [nkOk] at h
  | n, .dct _, h => by cases n <;> simp [nkOk] at h
  | n, .scr _, h => by cases n <;> simp [nkOk] at h
  | n, .ins _ _, h => by cases n <;> simp [nkOk] at h
  | n, .dcn _, h => by cases n <;> simp [nkOk] at h
theorem nks_some : ∀ (n : Nat) (xs : List D), nkOks n xs = true → ∃ qs, nkDs xs = some qs ∧ NestedKey.depthAll qs ≤ n
  | n, [], _ => ⟨[], rfl, by simp [NestedKey.depthAll]⟩
  | n, x :: xs, h => by
    rw [nkOks, Bool.and_eq_true] at h
    obtain ⟨q, e1, l1⟩ := nk_some n x h.1
    obtain ⟨qs, e2, l2⟩ := nks_some n xs h.2
    exact ⟨q :: qs, by rw [nkDs, e1, e2]; rfl, by rw [NestedKey.depthAll]; omega⟩
end
theorem nkT_some {d : D} (h : nkT d = true) : ∃ qs, nkD d = some (.tup qs) ∧ (NestedKey.tup qs).depth ≤ 8 ∧ ∃ xs, d = .tup xs := by
  cases d with
  | tup xs =>
    obtain ⟨qs, e, l⟩ := nks_some 7 xs h
    exact ⟨qs, by rw [nkD, e]; rfl, by rw [NestedKey.depth]; omega, xs, rfl⟩
  | _ => cases h
mutual
/-- == of keys -/
theorem nk_eqv : ∀ (x y : D) {p q : NestedKey}, nkD x = some p → nkD y = some q → D.eqv x y = NestedKey.beq p q
  | .non, y, p, q, e1, e2 => by
    cases e1
    cases y <;> simp only [nkD] at e2 <;> first | (cases e2; rfl) | (cases e2; done) | (rw [Option.map_eq_some_iff] at e2; obtain ⟨_, _, rfl⟩ := e2; rfl)
  | .int i, y, p, q, e1, e2 => by
    cases e1
    cases y <;> simp only [nkD] at e2 <;> first | (cases e2; simp [D.eqv, NestedKey.beq]; done) | (cases e2; rw [D.eqv, NestedKey.beq, Bool.eq_iff_iff]; simp; done) | (cases e2; done) | (rw [Option.map_eq_some_iff] at e2; obtain ⟨_, _, rfl⟩ := e2; rfl)
  | .str i, y, p, q, e1, e2 => by
    cases e1
    cases y <;> simp only [nkD] at e2 <;> first | (cases e2; simp [D.eqv, NestedKey.beq, ofString_inj]; done) | (cases e2; rw [D.eqv, NestedKey.beq, Bool.eq_iff_iff]; simp [ofString_inj]; done) | (cases e2; done) | (rw [Option.map_eq_some_iff] at e2; obtain ⟨_, _, rfl⟩ := e2; rfl)
  | .tup xs, y, p, q, e1, e2 => by
    rw [nkD, Option.map_eq_some_iff] at e1
    obtain ⟨ps, e1, rfl⟩ := e1
    cases y with
    | tup ys =>
      rw [nkD, Option.map_eq_some_iff] at e2
      obtain ⟨qs, e2, rfl⟩ := e2
      rw [D.eqv, NestedKey.beq]
      exact nks_eqv xs ys e1 e2
    | _ => simp only [nkD] at e2 <;> first | (cases e2; rfl) | (cases e2; done)
  | .bl _, _, _, _, e, _ => by simp [nkD] at e
  | .lst _, _, _, _, e, _ => by simp [nkD] at e
  | .dct _, _, _, _, e, _ => by simp [nkD] at e
  | .scr _, _, _, _, e, _ => by simp [nkD] at e
  | .ins _ _, _, _, _, e, _ => by simp [nkD] at e
  | .dcn _, _, _, _, e, _ => by simp [nkD] at e
theorem nks_eqv : ∀ (x y : List D) {p q : List NestedKey}, nkDs x = some p → nkDs y = some q → D.eqvs x y = NestedKey.beqAll p q
  | [], y, p, q, e1, e2 => by
    cases e1
    cases y with
    | nil => cases e2; rfl
    | cons y ys =>
      rw [nkDs, Option.bind_eq_some_iff] at e2
      obtain ⟨a, _, e2⟩ := e2
      rw [Option.map_eq_some_iff] at e2
      obtain ⟨b, _, rfl⟩ := e2
      rfl
  | x :: xs, y, p, q, e1, e2 => by
    rw [nkDs, Option.bind_eq_some_iff] at e1
    obtain ⟨a, e11, e1⟩ := e1
    rw [Option.map_eq_some_iff] at e1
    obtain ⟨b, e12, rfl⟩ := e1
    cases y with
    | nil => cases e2; rfl
    | cons y ys =>
      rw [nkDs, Option.bind_eq_some_iff] at e2
      obtain ⟨a2, e21, e2⟩ := e2
      rw [Option.map_eq_some_iff] at e2
      obtain ⟨b2, e22, rfl⟩ := e2
      rw [D.eqvs, NestedKey.beqAll, nk_eqv x y e11 e21, nks_eqv xs ys e12 e22]
end
/-- what stands behind a store of True at a nested key -/
def putN (xs : List (NestedKey × Addr)) (q : NestedKey) (b : Addr) : List (NestedKey × Addr) := if (xs.any fun x => NestedKey.beq x.1 q) = true then xs else xs ++ [(q, b)]
/-- d[k] = True, k nested -/
def rSetN (K : PySem.W.Frag) : TSet := fun o i v H Q => ∃ (a b : Addr) (Dz : Addr → Prop) (j : Nat) (key : D) (q : NestedKey) (G : List Addr) (xs : List (NestedKey × Addr)), o = .ref a ∧ i = .ref b ∧ v = .bl true ∧ Rp K H Dz j key (.ref b) G ∧ nkD key = some q ∧ q.depth ≤ 8 ∧
  ((H a = some (.dK []) ∧ xs = []) ∨ (H a = some (DNo a xs) ∧ ∀ x ∈ xs, ∃ (j' : Nat) (key' : D) (G' : List Addr), Rp K H Dz j' key' (.ref x.2) G' ∧ nkD key' = some x.1 ∧ x.1.depth ≤ 8)) ∧ xs.length < sizeLine ∧ Q (upd H a (DNo a (putN xs q b)))
theorem atKey_none {κ : Type} [DecidableEq κ] {xs : List (κ × Addr × Value)} {k : κ} : (atKey xs k).isSome = xs.any fun x => decide (x.1 = k) := by
  unfold atKey
  rw [Option.isSome_map, Bool.eq_iff_iff, List.find?_isSome, List.any_eq_true]
theorem set_nest {X : Cx} (hw : PWc.w = some X.w) (hu : X.A.units + 100 < cLine) : PSet X (rSetN X.K) := by
  intro pins s σ H o i v ov iv u Q I ro ri rv h
  obtain ⟨a, b, Dz, j, key, q, G, xs, rfl, rfl, rfl, hk, hq, h8, hd, hl, hQ⟩ := h
  cases (show ov = Value.ref a from ro)
  cases (show iv = Value.ref b from ri)
  cases (show u = Value.bool true from rv)
  have hkey : (nestedKind X.prog X.w).is s.heap q b := ⟨nk_is I key hk hq rfl, h8⟩
  obtain ⟨lo, hnd, hm⟩ : (a == sysModules) = false ∧ (xs.map (·.1)).Nodup ∧ s.heap.DictOfH (nestedKind X.prog X.w) a (xs.map fun x => (x.1, x.2, Value.bool true)) := by
    rcases hd with ⟨hd, rfl⟩ | ⟨hd, hx⟩
    · obtain ⟨_, lo, vs, rel, o, es, ep, ho, hx, hdat, ks, pr, nd⟩ := (I.hok a _ hd : ObjOk X.prog X.w H s.heap a (.dK []))
      cases rel
      have e0 : es.toList = [] := by
        cases hes : es.toList with
        | nil => rfl
        | cons y ys => rw [hes] at pr; cases pr
      exact ⟨lo, .nil, o, es, ep, ho, hx, hdat, e0, fun x m => (by cases m), .nil⟩
    · obtain ⟨w, ew, lo, _, nd, o, es, ep, ho, hex, hdat, hes⟩ := dno_ok I hd
      rw [hw] at ew
      cases ew
      refine ⟨lo, nd, o, es, ep, ho, hex, hdat, ?_, fun x m => ?_, by rw [List.map_map]; exact nd⟩
      · rw [hes, List.map_map]
        rfl
      · obtain ⟨y, my, rfl⟩ := List.mem_map.mp m
        obtain ⟨j', key', G', r1, r2, r3⟩ := hx y my
        exact ⟨nk_is I key' r1 r2 rfl, r3⟩
  have room : (nestedKind X.prog X.w).room X.A.in1 := by
    show X.A.in1.units + 8 < cLine
    have : X.A.in1.units = X.A.units + 1 := by first | rfl | simp [Around.in1]
    omega
  refine wpAny_setItem_heap room hkey hm (fun h' hm' hs => ?_) (by rw [List.length_map]; omega)
  have hany : ((xs.map fun x => (x.1, x.2, Value.bool true)).any fun x => decide (x.1 = q)) = xs.any fun x => NestedKey.beq x.1 q := by
    rw [List.any_map]
    congr 1
    funext x
    exact NestedKey.decide_eq x.1 q
  have hst : storedH (xs.map fun x => (x.1, x.2, Value.bool true)) q b (.bool true) = (putN xs q b).map fun x => (x.1, x.2, Value.bool true) := by
    unfold storedH putN
    rw [atKey_none, hany]
    cases e : xs.any fun x => NestedKey.beq x.1 q with
    | true =>
      simp only [if_true]
      rw [List.map_map]
      apply List.map_congr_left
      intro x _
      simp only [Function.comp, putAt]
      split <;> rfl
    | false => simp
  rw [hst] at hm'
  obtain ⟨o, es, ep, ho, hex, hdat, hes, _, hnd'⟩ := hm'
  rw [List.map_map] at hes hnd'
  have hlen : (putN xs q b).length ≤ sizeLine := by
    unfold putN
    split
    · omega
    · simp; omega
  refine ⟨_, I.write (x := a) (e := a) ?_ (.inl rfl) (fun c u hc e => (hs.2 c hc).trans e) ⟨o, ho⟩ ?_, hQ⟩
  · rcases hd with ⟨hd, _⟩ | ⟨hd, _⟩ <;> rw [hd] <;> exact True.intro
  · exact ⟨⟨X.w, hw, lo, hlen, hnd', o, es, ep, ho, hex, hdat, hes⟩, ⟨o, ho⟩, fun h1 h2 ⟨w, z1, z2, z3, z4, o', es', ep', z5, z6⟩ hk => ⟨w, z1, z2, z3, z4, o', es', ep', hk _ z5, z6⟩⟩
end Ti
end

section
namespace Ti
open PySem PySem.Spec PyProof.Rows L2
variable [PWc]

variable {cf : Nat → List Arg → Rs} {io : List Nat} {X : Cx}
/-- a built-in by values -/
def rBi (K : PySem.W.Frag) (b : Bi) : List V → Hp → VK → Prop := fun vs H Q => ∃ (Dz : Addr → Prop) (ds : List D) (j : Nat) (d : D), ds.length = vs.length ∧
  (∀ (i : Nat) (d : D) (v : V), ds[i]? = some d → vs[i]? = some v → ∃ k G, (b.shares = true → k ≤ 1) ∧ Rp K H Dz k d v G) ∧ (∀ a, Dz a → H a ≠ none) ∧ biD b ds = some (j, d) ∧ Fin K H Dz j d Q
theorem one_arg {K : PySem.W.Frag} {H : Hp} {Dz : Addr → Prop} {b : Bi} {d : D} {vs : List V} (hl : [d].length = vs.length) (h : ∀ (i : Nat) (x : D) (v : V), [d][i]? = some x → vs[i]? = some v → ∃ k G, (b.shares = true → k ≤ 1) ∧ Rp K H Dz k x v G) :
    ∃ v k G, vs = [v] ∧ (b.shares = true → k ≤ 1) ∧ Rp K H Dz k d v G := by
  match vs, hl with
  | [v], _ =>
    obtain ⟨k, G, h1, h2⟩ := h 0 d v rfl rfl
    exact ⟨v, k, G, rfl, h1, h2⟩
theorem two_args {K : PySem.W.Frag} {H : Hp} {Dz : Addr → Prop} {b : Bi} {d e : D} {vs : List V} (hl : [d, e].length = vs.length) (h : ∀ (i : Nat) (x : D) (v : V), [d, e][i]? = some x → vs[i]? = some v → ∃ k G, (b.shares = true → k ≤ 1) ∧ Rp K H Dz k x v G) :
    ∃ v w k1 G1 k2 G2, vs = [v, w] ∧ Rp K H Dz k1 d v G1 ∧ Rp K H Dz k2 e w G2 := by
  match vs, hl with
  | [v, w], _ =>
    obtain ⟨k, G, h1, h2⟩ := h 0 d v rfl rfl
    obtain ⟨k', G', h1', h2'⟩ := h 1 e w rfl rfl
    exact ⟨v, w, k, G, k', G', rfl, h2, h2'⟩
theorem rps_bools {K : PySem.W.Frag} {H : Hp} {Dz : Addr → Prop} : ∀ {k : Nat} {xs : List D} {vs : List V} {F : List Addr} {bs : List Bool}, Rps K H Dz k xs vs F → boolsD xs = some bs → vs = bs.map V.bl
  | _, _, _, _, _, .nil, e => by cases e; rfl
  | _, _, _, _, _, .cons h r, e => by
    cases h <;> simp only [boolsD] at e <;> try cases e
    rw [Option.map_eq_some_iff] at e
    obtain ⟨bs, e, rfl⟩ := e
    rw [rps_bools r e]; rfl
theorem rps_ints {K : PySem.W.Frag} {H : Hp} {Dz : Addr → Prop} : ∀ {k : Nat} {xs : List D} {vs : List V} {F : List Addr} {bs : List Int}, Rps K H Dz k xs vs F → intsD xs = some bs → vs = bs.map V.int ∧ xs = bs.map D.int
  | _, _, _, _, _, .nil, e => by cases e; exact ⟨rfl, rfl⟩
  | _, _, _, _, _, .cons h r, e => by
    cases h <;> simp only [intsD] at e <;> try cases e
    rw [Option.map_eq_some_iff] at e
    obtain ⟨bs, e, rfl⟩ := e
    obtain ⟨h1, h2⟩ := rps_ints r e
    rw [h1, h2]; exact ⟨rfl, rfl⟩
theorem rps_strs {K : PySem.W.Frag} {H : Hp} {Dz : Addr → Prop} : ∀ {k : Nat} {xs : List D} {vs : List V} {F : List Addr} {bs : List String}, Rps K H Dz k xs vs F → strsD xs = some bs → vs = bs.map (fun x => V.str (Str.ofString x)) ∧ xs = bs.map D.str ∧ ∀ x ∈ bs, x.length ≤ big
  | _, _, _, _, _, .nil, e => by cases e; exact ⟨rfl, rfl, fun _ m => by cases m⟩
  | _, _, _, _, _, .cons h r, e => by
    cases h with
    | str x hx =>
      simp only [strsD, Option.map_eq_some_iff] at e
      obtain ⟨bs, e, rfl⟩ := e
      obtain ⟨h1, h2, h3⟩ := rps_strs r e
      rw [h1, h2]
      refine ⟨rfl, rfl, fun y m => ?_⟩
      rcases List.mem_cons.mp m with rfl | m
      · exact hx
      · exact h3 y m
    | _ => simp only [strsD] at e; cases e
def Bi.val : Bi → Value
  | .len => .builtin "len" | .all => .builtin "all" | .sum => .builtin "sum" | .sorted => .builtin "sorted" | .list => .type "list" | .tuple => .type "tuple" | .dict => .type "dict"
  | .str => .type "str" | .int => .type "int" | .min2 => .builtin "min" | .max2 => .builtin "max" | .min1 => .builtin "min" | .setlen => .none | .sortset => .none
theorem key_fit {K : PySem.W.Frag} {H : Hp} {Dz : Addr → Prop} {k : Nat} {d : D} {v : V} {G : List Addr} (h : Rp K H Dz k d v G) : keyFit d := by
  cases h <;> first | exact True.intro | assumption
/-- key and value pairs -/
theorem rps_pairs {K : PySem.W.Frag} {H : Hp} {Dz : Addr → Prop} : ∀ {xs : List D} {vs : List V} {ps : List (D × D)}, Rps K H Dz 0 xs vs [] → pairsD xs = some ps →
    ∃ (as : List Addr) (kvs : List (L2.Key × V)), vs = as.map V.ref ∧ Paired (fun (p : Addr) (kv : L2.Key × V) => SqU K H p [kV kv.1, kv.2]) as kvs ∧ KeyL ps kvs ∧ Rps K H Dz 0 (ps.map (·.2)) (kvs.map (·.2)) []
  | [], vs, ps, r, e => by
    cases e
    have := r.len
    obtain rfl := List.length_eq_zero_iff.mp this.symm
    exact ⟨[], [], rfl, .nil, ⟨rfl, fun _ m => by cases m⟩, .nil⟩
  | x :: xs, vs, ps, r, e => by
    generalize eF : ([] : List Addr) = F at r
    cases r with
    | cons h r =>
      obtain rfl := h.nil0
      obtain rfl := r.nil0
      clear eF
      cases x with
      | tup ys =>
        match ys, e, h with
        | [k, v], e, h =>
          simp only [pairsD] at e
          split at e
          · rename_i hk
            rw [Option.map_eq_some_iff] at e
            obtain ⟨ps', e5, rfl⟩ := e
            obtain ⟨as, kvs, h1, h2, h3, h4⟩ := rps_pairs r e5
            obtain ⟨a, ws, rfl, ht, hr⟩ := h.tup1 (Nat.zero_le _)
            obtain ⟨ky, hy⟩ := keyOk_of hk
            have hl := hr.len
            match ws, hl, hr, ht with
            | [wk, wv], _, hr, ht =>
              obtain ⟨_, hr⟩ := Rps.iff0.mp hr
              have q1 := hr 0 k wk rfl rfl
              have q3 := hr 1 v wv rfl rfl
              have ev := keyV q1 hy
              subst ev
              exact ⟨a :: as, (ky, wv) :: kvs, by rw [h1]; rfl, .cons ht h2, ⟨by simp [hy, h3.1], fun p m => by
                rcases List.mem_cons.mp m with rfl | m
                · exact key_fit q1
                · exact h3.2 p m⟩, Rps.cons (F := []) (G := []) q3 h4⟩
          · cases e
        | [], e, _ => cases e
        | [_], e, _ => cases e
        | _ :: _ :: _ :: _, e, _ => cases e
      | _ => cases e
theorem keys_any {key : D} {ky : L2.Key} (hy : keyOf key = some ky) : ∀ {kvs : List (D × D)} {es : List (L2.Key × V)}, kvs.map (fun p => keyOf p.1) = es.map (fun p => some p.1) → (kvs.any fun p => D.eqv p.1 key) = es.any fun p => decide (p.1 = ky)
  | [], es, h => by
    cases es with
    | nil => rfl
    | cons _ _ => simp at h
  | p :: kvs, es, h => by
    cases es with
    | nil => simp at h
    | cons q es =>
      simp only [List.map_cons, List.cons.injEq] at h
      rw [List.any_cons, List.any_cons, key_eqv h.1 hy, keys_any hy h.2]
/-- a store to a dict's pairs -/
theorem put_ok {K : PySem.W.Frag} {H : Hp} {Dz : Addr → Prop} {key d : D} {v : V} {ky : L2.Key} (hy : keyOf key = some ky) (hf : keyFit key) (hv : Rp K H Dz 0 d v []) {kvs : List (D × D)} {es : List (L2.Key × V)} (h1 : KeyL kvs es) (h2 : Rps K H Dz 0 (kvs.map (·.2)) (es.map (·.2)) []) :
    KeyL (putD kvs key d) (putK es ky v) ∧ Rps K H Dz 0 ((putD kvs key d).map (·.2)) ((putK es ky v).map (·.2)) [] := by
  have ha := keys_any hy h1.1
  unfold putD putK
  by_cases hc : (es.any fun kv => decide (kv.1 = ky)) = true
  · rw [if_pos (by rw [ha]; exact hc), if_pos hc]
    have go : ∀ {kvs : List (D × D)} {es : List (L2.Key × V)}, kvs.map (fun p => keyOf p.1) = es.map (fun p => some p.1) → Rps K H Dz 0 (kvs.map (·.2)) (es.map (·.2)) [] →
        (kvs.map (fun p => if D.eqv p.1 key = true then (p.1, d) else p)).map (fun p => keyOf p.1) = (es.map (fun kv => if kv.1 = ky then (kv.1, v) else kv)).map (fun p => some p.1) ∧
        Rps K H Dz 0 ((kvs.map (fun p => if D.eqv p.1 key = true then (p.1, d) else p)).map (·.2)) ((es.map (fun kv => if kv.1 = ky then (kv.1, v) else kv)).map (·.2)) [] := by
      intro kvs
      induction kvs with
      | nil =>
        intro es h1 h2
        cases es with
        | nil => exact ⟨rfl, .nil⟩
        | cons _ _ => simp at h1
      | cons p kvs ih =>
        intro es h1 h2
        cases es with
        | nil => simp at h1
        | cons q es =>
          simp only [List.map_cons, List.cons.injEq] at h1
          generalize eF : ([] : List Addr) = F at h2
          cases h2 with
          | cons r1 r2 =>
            obtain rfl := r1.nil0
            obtain rfl := r2.nil0
            obtain ⟨i1, i2⟩ := ih h1.2 r2
            have ev := key_eqv h1.1 hy
            by_cases hq : q.1 = ky
            · have e1 : D.eqv p.1 key = true := by rw [ev]; exact decide_eq_true hq
              simp only [List.map_cons, if_pos e1, if_pos hq]
              exact ⟨by rw [i1, h1.1], Rps.cons (F := []) (G := []) hv i2⟩
            · have e1 : ¬ D.eqv p.1 key = true := by rw [ev]; simpa using hq
              simp only [List.map_cons, if_neg e1, if_neg hq]
              exact ⟨by rw [i1, h1.1], Rps.cons (F := []) (G := []) r1 i2⟩
    obtain ⟨g1, g2⟩ := go h1.1 h2
    refine ⟨⟨g1, fun p m => ?_⟩, g2⟩
    obtain ⟨p', m', rfl⟩ := List.mem_map.mp m
    split
    · exact h1.2 p' m'
    · exact h1.2 p' m'
  · rw [if_neg (by rw [ha]; exact hc), if_neg hc]
    refine ⟨⟨by simp [h1.1, hy], fun p m => ?_⟩, ?_⟩
    · rcases List.mem_append.mp m with m | m
      · exact h1.2 p m
      · obtain rfl : p = (key, d) := by simpa using m
        exact hf
    · rw [List.map_append, List.map_append]
      exact h2.app0 (Rps.one0 hv)
/-- a store of what owns nothing -/
theorem put_okS {K : PySem.W.Frag} {H : Hp} {Dz : Addr → Prop} {k : Nat} {key d : D} {v : V} {ky : L2.Key} (hy : keyOf key = some ky) (hf : keyFit key) (hv : Rp K H Dz k d v []) {kvs : List (D × D)} {es : List (L2.Key × V)} {F : List Addr} (h1 : KeyL kvs es) (h2 : Rps K H Dz k (kvs.map (·.2)) (es.map (·.2)) F) :
    KeyL (putD kvs key d) (putK es ky v) ∧ ∃ F', Rps K H Dz k ((putD kvs key d).map (·.2)) ((putK es ky v).map (·.2)) F' ∧ F'.Sublist F := by
  have ha := keys_any hy h1.1
  unfold putD putK
  by_cases hc : (es.any fun kv => decide (kv.1 = ky)) = true
  · rw [if_pos (by rw [ha]; exact hc), if_pos hc]
    have go : ∀ {kvs : List (D × D)} {es : List (L2.Key × V)} {F : List Addr}, kvs.map (fun p => keyOf p.1) = es.map (fun p => some p.1) → Rps K H Dz k (kvs.map (·.2)) (es.map (·.2)) F →
        (kvs.map (fun p => if D.eqv p.1 key = true then (p.1, d) else p)).map (fun p => keyOf p.1) = (es.map (fun kv => if kv.1 = ky then (kv.1, v) else kv)).map (fun p => some p.1) ∧
        ∃ F', Rps K H Dz k ((kvs.map (fun p => if D.eqv p.1 key = true then (p.1, d) else p)).map (·.2)) ((es.map (fun kv => if kv.1 = ky then (kv.1, v) else kv)).map (·.2)) F' ∧ F'.Sublist F := by
      intro kvs
      induction kvs with
      | nil =>
        intro es F h1 h2
        cases es with
        | nil => cases h2; exact ⟨rfl, [], .nil, List.Sublist.refl _⟩
        | cons _ _ => simp at h1
      | cons p kvs ih =>
        intro es F h1 h2
        cases es with
        | nil => simp at h1
        | cons q es =>
          simp only [List.map_cons, List.cons.injEq] at h1
          cases h2 with
          | @cons _ _ _ _ _ L1 L2' r1 r2 =>
            obtain ⟨i1, F', i2, i3⟩ := ih h1.2 r2
            have ev := key_eqv h1.1 hy
            by_cases hq : q.1 = ky
            · have e1 : D.eqv p.1 key = true := by rw [ev]; exact decide_eq_true hq
              simp only [List.map_cons, if_pos e1, if_pos hq]
              exact ⟨by rw [i1, h1.1], F', Rps.cons (F := []) hv i2, i3.trans (List.sublist_append_right _ _)⟩
            · have e1 : ¬ D.eqv p.1 key = true := by rw [ev]; simpa using hq
              simp only [List.map_cons, if_neg e1, if_neg hq]
              exact ⟨by rw [i1, h1.1], L1 ++ F', Rps.cons r1 i2, (List.Sublist.refl _).append i3⟩
    obtain ⟨g1, F', g2, g3⟩ := go h1.1 h2
    refine ⟨⟨g1, fun p m => ?_⟩, F', g2, g3⟩
    obtain ⟨p', m', rfl⟩ := List.mem_map.mp m
    split
    · exact h1.2 p' m'
    · exact h1.2 p' m'
  · rw [if_neg (by rw [ha]; exact hc), if_neg hc]
    refine ⟨⟨by simp [h1.1, hy], fun p m => ?_⟩, F, ?_, List.Sublist.refl _⟩
    · rcases List.mem_append.mp m with m | m
      · exact h1.2 p m
      · obtain rfl : p = (key, d) := by simpa using m
        exact hf
    · rw [List.map_append, List.map_append]
      have go : ∀ {a : List D} {b : List V} {L : List Addr}, Rps K H Dz k a b L → Rps K H Dz k (a ++ [d]) (b ++ [v]) L := by
        intro a
        induction a with
        | nil => intro b L h; cases h; exact Rps.cons (F := []) (G := []) hv .nil
        | cons x a ih =>
          intro b L h
          cases h with
          | cons q1 q2 => exact .cons q1 (ih q2)
      exact go h2
theorem merge_ok {K : PySem.W.Frag} {H : Hp} {Dz : Addr → Prop} : ∀ {ps : List (D × D)} {ls : List (L2.Key × V)} {kvs : List (D × D)} {es : List (L2.Key × V)}, KeyL ps ls → Rps K H Dz 0 (ps.map (·.2)) (ls.map (·.2)) [] →
    KeyL kvs es → Rps K H Dz 0 (kvs.map (·.2)) (es.map (·.2)) [] →
    KeyL (ps.foldl (fun acc p => putD acc p.1 p.2) kvs) (mergeK es ls) ∧ Rps K H Dz 0 ((ps.foldl (fun acc p => putD acc p.1 p.2) kvs).map (·.2)) ((mergeK es ls).map (·.2)) []
  | [], ls, kvs, es, h1, h2, h3, h4 => by
    cases ls with
    | nil => exact ⟨h3, h4⟩
    | cons _ _ => simp [KeyL] at h1
  | p :: ps, ls, kvs, es, h1, h2, h3, h4 => by
    cases ls with
    | nil => simp [KeyL] at h1
    | cons q ls =>
      obtain ⟨h1, hf⟩ := h1
      simp only [List.map_cons, List.cons.injEq] at h1
      generalize eF : ([] : List Addr) = F at h2
      cases h2 with
      | cons r1 r2 =>
        obtain rfl := r1.nil0
        obtain rfl := r2.nil0
        obtain ⟨i1, i2⟩ := put_ok h1.1 (hf p List.mem_cons_self) r1 h3 h4
        exact merge_ok (ps := ps) (ls := ls) ⟨h1.2, fun x m => hf x (List.mem_cons_of_mem _ m)⟩ r2 i1 i2
theorem keyl_nil : KeyL [] [] := ⟨rfl, fun _ m => by cases m⟩
theorem keyV2 {K : PySem.W.Frag} {H : Hp} {Dz : Addr → Prop} {d : D} {y : L2.Key} (e : keyOf d = some y) (f : keyFit d) : Rp K H Dz 0 d (kV y) [] := by
  cases d <;> simp only [keyOf] at e <;> cases e
  · exact .int _
  · exact .str _ f
/-- the keys of a dict -/
theorem keys_rps {K : PySem.W.Frag} {H : Hp} {Dz : Addr → Prop} : ∀ {kvs : List (D × D)} {es : List (L2.Key × V)}, KeyL kvs es → Rps K H Dz 0 (keysOf kvs) (es.map fun p => kV p.1) []
  | [], es, h => by
    cases es with
    | nil => exact .nil
    | cons _ _ => simp [KeyL] at h
  | p :: kvs, es, h => by
    cases es with
    | nil => simp [KeyL] at h
    | cons q es =>
      obtain ⟨h, hf⟩ := h
      simp only [List.map_cons, List.cons.injEq] at h
      exact Rps.cons (F := []) (G := []) (keyV2 h.1 (hf p List.mem_cons_self)) (keys_rps ⟨h.2, fun x m => hf x (List.mem_cons_of_mem _ m)⟩)
/-- a new dict of nobody's items -/
theorem Fin.dct {K : PySem.W.Frag} {H : Hp} {Dz : Addr → Prop} {kvs : List (D × D)} {es : List (L2.Key × V)} {Q : VK} (f : Fin K H Dz 1 (.dct kvs) Q) (tk : ∀ a, Dz a → H a ≠ none) (h1 : KeyL kvs es) (h2 : Rps K H Dz 0 (kvs.map (·.2)) (es.map (·.2)) []) : ∀ p, H p = none → Q (.ref p) (upd H p (.dK es)) := fun p hp => by
  have np : ¬ Dz p := fun z => tk p z hp
  refine f _ _ Dz [p] (same_new hp) (fun _ z => z) (fun _ z => .inl z) (fun a z => ?_) (.do_ (F := []) upd_same h1 (h2.up (same_new hp) fun _ z => z)) (by simp) fun a m => ?_
  · have h := tk a z
    by_cases e : a = p
    · subst e; exact absurd hp h
    · rw [upd_ne e]; exact h
  · obtain rfl : a = p := by simpa using m
    exact ⟨hp, np⟩
theorem each_iff {α β : Type} {R : α → β → Prop} : ∀ {as : List α} {bs : List β}, as.length = bs.length → (∀ (i : Nat) (a : α) (b : β), as[i]? = some a → bs[i]? = some b → R a b) → PySem.W.EachIs R as bs
  | [], [], _, _ => .nil
  | [], _ :: _, h, _ => by simp at h
  | _ :: _, [], h, _ => by simp at h
  | a :: as, b :: bs, h, g => .cons (g 0 a b rfl rfl) (each_iff (by simpa using h) fun i x y e1 e2 => g (i + 1) x y (by simpa using e1) (by simpa using e2))
mutual
theorem alk_pd : ∀ x y : D, x.flat = true → D.alk x y = true → PySem.W.alike x.pd y.pd = true
  | .non, y, _, h => by cases y <;> simp_all [D.alk, D.pd, PySem.W.alike]
  | .bl _, y, _, h => by cases y <;> simp_all [D.alk, D.pd, PySem.W.alike]
  | .int _, y, _, h => by cases y <;> simp_all [D.alk, D.pd, PySem.W.alike]
  | .str _, y, _, h => by cases y <;> simp_all [D.alk, D.pd, PySem.W.alike]
  | .tup xs, y, f, h => by
    cases y <;> simp_all [D.alk, D.pd, PySem.W.alike, D.flat]
    exact alks_pd _ _ f h
  | .lst xs, y, f, h => by
    cases y <;> simp_all [D.alk, D.pd, PySem.W.alike, D.flat]
    exact alks_pd _ _ f h
  | .dct _, _, f, _ => by cases f
  | .scr _, _, f, _ => by cases f
  | .ins _ _, _, f, _ => by cases f
theorem alks_pd : ∀ x y : List D, D.flats x = true → D.alks x y = true → PySem.W.alikeAll (D.pds x) (D.pds y) = true
  | [], _, _, _ => by simp [D.pds, PySem.W.alikeAll]
  | _ :: _, [], _, _ => by simp [D.pds, PySem.W.alikeAll]
  | x :: xs, y :: ys, f, h => by
    simp only [D.flats, Bool.and_eq_true] at f
    simp only [D.alks, Bool.and_eq_true] at h
    simp only [D.pds, PySem.W.alikeAll, Bool.and_eq_true]
    exact ⟨alk_pd x y f.1 h.1, alks_pd xs ys f.2 h.2⟩
end
theorem cmpl_other {x y : D} (h : ∀ u, x ≠ .tup u) : D.cmpl x y = D.alk x y := by
  cases x <;> first | (exact absurd rfl (h _)) | (cases y <;> first | rfl | (rw [D.cmpl]; intro u v e; cases e))
theorem cmpl_tup {u : List D} {y : D} (h : D.cmpl (.tup u) y = true) : ∃ v, y = .tup v ∧ D.cmpls u v = true := by
  cases y with
  | tup v => exact ⟨v, rfl, by simpa [D.cmpl] using h⟩
  | _ => exact absurd h (by simp [D.cmpl, D.alk])
mutual
theorem cmpl_pd : ∀ x y : D, x.flat = true → y.flat = true → D.cmpl x y = true → cmpP x.pd y.pd = true
  | .tup u, y, f, g, h => by
    obtain ⟨v, rfl, h⟩ := cmpl_tup h
    rw [D.pd, D.pd, cmpP]
    exact cmpls_pd u v f g h
  | .non, y, f, g, h => cmpP_of _ _ (alk_pd _ _ f (by rwa [cmpl_other (by intro u e; cases e)] at h))
  | .bl _, y, f, g, h => cmpP_of _ _ (alk_pd _ _ f (by rwa [cmpl_other (by intro u e; cases e)] at h))
  | .int _, y, f, g, h => cmpP_of _ _ (alk_pd _ _ f (by rwa [cmpl_other (by intro u e; cases e)] at h))
  | .str _, y, f, g, h => cmpP_of _ _ (alk_pd _ _ f (by rwa [cmpl_other (by intro u e; cases e)] at h))
  | .lst _, y, f, g, h => cmpP_of _ _ (alk_pd _ _ f (by rwa [cmpl_other (by intro u e; cases e)] at h))
  | .dct _, _, f, _, _ => by cases f
  | .scr _, _, f, _, _ => by cases f
  | .ins _ _, _, f, _, _ => by cases f
theorem cmpls_pd : ∀ x y : List D, D.flats x = true → D.flats y = true → D.cmpls x y = true → cmpPs (D.pds x) (D.pds y) = true
  | [], _, _, _, _ => by simp [D.pds, cmpPs]
  | _ :: _, [], _, _, _ => by simp [D.pds, cmpPs]
  | x :: xs, y :: ys, f, g, h => by
    simp only [D.flats, Bool.and_eq_true] at f g
    rw [D.cmpls, Bool.and_eq_true] at h
    rw [D.pds, D.pds, cmpPs, cmpl_pd x y f.1 g.1 h.1, D.eqv_pd x y f.1 g.1]
    cases e : D.eqv x y with
    | false => rfl
    | true =>
      rw [e] at h
      rw [cmpls_pd xs ys f.2 g.2 (by simpa using h.2)]
      rfl
end
theorem each_len {α β : Type} {R : α → β → Prop} {as : List α} {bs : List β} (h : PySem.W.EachIs R as bs) : as.length = bs.length := h.length
theorem each_at {α β : Type} {R : α → β → Prop} : ∀ {as : List α} {bs : List β}, PySem.W.EachIs R as bs → ∀ (i : Nat) (b : β), bs[i]? = some b → ∃ a, as[i]? = some a ∧ R a b
  | _, _, .nil, i, b, e => by simp at e
  | _, _, .cons h t, 0, b, e => by simp at e; subst e; exact ⟨_, rfl, h⟩
  | _, _, .cons h t, i + 1, b, e => by
    obtain ⟨a, h1, h2⟩ := each_at t i b (by simpa using e)
    exact ⟨a, by simpa using h1, h2⟩
theorem cr_sort {pins : List (Addr × Obj)} {s : Shared} {σ : L2.St} {H : Hp} {Q : VK} {Dz : Addr → Prop} {xs : List D} {vs : List V} {a : Addr} {u : Value} (hu : X.A.units + 100 < cLine) (I : L2.Inv X pins σ H s) (ru : RelV (.ref a) u) (hl : H a = some (.lst vs)) (hr : Rps X.K H Dz 0 xs vs [])
    (ok : sortOk xs = true) (tk : ∀ a, Dz a → H a ≠ none) (f : Fin X.K H Dz 1 (.lst (sortD xs)) Q) : wpAny (model X.prog X.w) X.A (call (.builtin "sorted") [u]) (EP X pins σ Q) X.xe s := by
  cases ru
  unfold sortOk at ok
  simp only [Bool.and_eq_true, List.all_eq_true, decide_eq_true_eq, Bool.or_eq_true] at ok
  obtain ⟨⟨ok1, ok2⟩, ok3⟩ := ok
  obtain ⟨its, rv, pl, hz⟩ := I.list (SqL.of hl)
  have hlen : its.length = xs.length := by rw [← rv.length, hr.len]
  have rel : ∀ (i : Nat) (w : Value) (d : D), its[i]? = some w → xs[i]? = some d → ∃ v, RelV v w ∧ Rp X.K H Dz 0 d v [] := fun i w d e1 e2 => by
    obtain ⟨v, G, e3, r3, _⟩ := hr.at e2
    obtain rfl := r3.nil0
    obtain ⟨w', e4, r4⟩ := rv.get e3
    rw [e1] at e4; cases e4
    exact ⟨v, r4, r3⟩
  have e : PySem.W.EachIs (fun (w : Value) (d : D) => ∃ v, RelV v w ∧ Rp X.K H Dz 0 d v []) its xs := each_iff hlen rel
  have er : PySem.W.EachIs (fun (w : Value) (d : D) => ∃ as, Reads s.heap w d.pd as) its xs := each_iff hlen fun i w d e1 e2 => by
    obtain ⟨v, r1, r2⟩ := rel i w d e1 e2
    exact Dp.reads I _ v w (r2.dp (ok2 d (List.mem_of_getElem? e2)).1) r1
  have hL : xs.length ≤ sizeLine := by rw [← big_size]; exact hr.len ▸ SqL.len I (SqL.of hl)
  have hfin : ∀ out : List Value, out.length = xs.length → PySem.W.EachIs (fun (w : Value) (d : D) => ∃ v, RelV v w ∧ Rp X.K H Dz 0 d v []) out (sortD xs) → EP X pins σ Q (.ref (s.heap.objs.size + 1)) { s with heap := PyProof.Rows.sortedAll s.heap its out.toArray } := by
    intro out ho each
    obtain ⟨ep, he'⟩ := PyProof.Rows.sortedAll_at s.heap its out.toArray
    have hout : out.length = (sortD xs).length := each_len each
    obtain ⟨vo, hvo⟩ : ∃ vo : List V, vo.length = out.length ∧ ∀ (i : Nat) (w : Value) (d : D), out[i]? = some w → (sortD xs)[i]? = some d → ∃ v, vo[i]? = some v ∧ RelV v w ∧ Rp X.K H Dz 0 d v [] := by
      have go : ∀ {out : List Value} {ds : List D}, PySem.W.EachIs (fun (w : Value) (d : D) => ∃ v, RelV v w ∧ Rp X.K H Dz 0 d v []) out ds → ∃ vo : List V, vo.length = out.length ∧ ∀ (i : Nat) (w : Value) (d : D), out[i]? = some w → ds[i]? = some d → ∃ v, vo[i]? = some v ∧ RelV v w ∧ Rp X.K H Dz 0 d v [] := by
        intro out ds h
        induction h with
        | nil => exact ⟨[], rfl, fun i w d e => by simp at e⟩
        | cons h t ih =>
          obtain ⟨vo, h1, h2⟩ := ih
          obtain ⟨v, r1, r2⟩ := h
          refine ⟨v :: vo, by simp [h1], fun i w d e1 e2 => ?_⟩
          cases i with
          | zero => simp at e1 e2; subst e1; subst e2; exact ⟨v, rfl, r1, r2⟩
          | succ i => simpa using h2 i w d (by simpa using e1) (by simpa using e2)
      exact go each
    have hvals : Vals vo out := by
      have go : ∀ {vo : List V} {out : List Value} {ds : List D}, out.length = ds.length → vo.length = out.length → (∀ (i : Nat) (w : Value) (d : D), out[i]? = some w → ds[i]? = some d → ∃ v, vo[i]? = some v ∧ RelV v w ∧ Rp X.K H Dz 0 d v []) → Vals vo out := by
        intro vo
        induction vo with
        | nil =>
          intro out ds _ h _
          cases out with
          | nil => exact .nil
          | cons _ _ => simp at h
        | cons v vo ih =>
          intro out ds hl h g
          cases out with
          | nil => simp at h
          | cons w out =>
            cases ds with
            | nil => simp at hl
            | cons d ds =>
              obtain ⟨v', e1, r1, _⟩ := g 0 w d rfl rfl
              simp at e1; subst e1
              exact .cons r1 (ih (by simpa using hl) (by simpa using h) fun i w d e1 e2 => by simpa using g (i + 1) w d (by simpa using e1) (by simpa using e2))
      exact go hout hvo.1 hvo.2
    have hrps : Rps X.K H Dz 0 (sortD xs) vo [] := by
      refine Rps.iff0.mpr ⟨by rw [hvo.1, hout], fun j d w e1 e2 => ?_⟩
      have hj : j < out.length := by
        have := (List.getElem?_eq_some_iff.mp e1).1
        omega
      obtain ⟨v, e3, _, r3⟩ := hvo.2 j _ d (List.getElem?_eq_getElem hj) e1
      rw [e2] at e3; cases e3; exact r3
    have hz2 : vo.length ≤ sizeLine := by
      rw [hvo.1, ho, hr.len]
      exact hz
    exact ⟨.ref _, upd H (s.heap.objs.size + 1) (.lst vo), I.laid (t' := s.toks) (fun _ _ => PyProof.Rows.sortedAll_old) (Nat.le_succ _) ⟨hz2, out, ep, hvals, he'⟩, rfl, f.lst tk hrps _ (I.hok.fresh (Nat.le_succ _))⟩
  rcases ok3 with h | h
  · refine sortedP (enc := D.pd) pl.isList e er ?_ (fun d hd => ?_) (fun d hd => ?_) hL (fun d hd => ?_) hfin
    · intro d hd d' hd'
      obtain ⟨x, hx, rfl⟩ := List.mem_map.mp hd
      obtain ⟨y, hy, rfl⟩ := List.mem_map.mp hd'
      rcases ok1 x hx y hy with z | z
      · exact cmpP_of _ _ (alk_pd x y (ok2 x hx).1 z)
      · exact cmpl_pd x y (ok2 x hx).1 (ok2 y hy).1 z
    · obtain ⟨x, hx, rfl⟩ := List.mem_map.mp hd
      exact D.lay_pd x
    · obtain ⟨x, hx, rfl⟩ := List.mem_map.mp hd
      have := h x hx
      cases x with
      | tup ys =>
        cases ys with
        | nil => simp [isTup1] at this
        | cons y ys => exact ⟨y.pd, D.pds ys, by simp [D.pd, D.pds]⟩
      | _ => simp [isTup1] at this
    · rw [D.dep_pd]
      have := (ok2 d hd).2
      omega
  · refine PySem.W.sorted_data (enc := D.pd) pl.isList e er ?_ (.inr fun d hd => ?_) hL (fun d hd => ?_) hfin
    · intro d hd d' hd'
      obtain ⟨x, hx, rfl⟩ := List.mem_map.mp hd
      obtain ⟨y, hy, rfl⟩ := List.mem_map.mp hd'
      rcases ok1 x hx y hy with z | z
      · exact alk_pd x y (ok2 x hx).1 z
      · rw [cmpl_other fun u e => by
          have := h x hx
          rw [e] at this
          cases this] at z
        exact alk_pd x y (ok2 x hx).1 z
    · obtain ⟨x, hx, rfl⟩ := List.mem_map.mp hd
      have h1 := h x hx
      have h2 := (ok2 x hx).1
      cases x <;> simp_all [noTup, D.pd, D.flat]
    · rw [D.dep_pd]
      have := (ok2 d hd).2
      omega
theorem paired_imp {α β : Type} {R S : α → β → Prop} (i : ∀ a b, R a b → S a b) {as : List α} {bs : List β} (h : Paired R as bs) : Paired S as bs := Paired.mapP h i
theorem key_sort_ints {ns ms : List Int} (hp : ns.Perm ms) (hs : ns.Pairwise (· ≤ ·)) : sortD (ms.map D.int) = ns.map D.int := by
  have e1 : sortD (ms.map D.int) = (ms.mergeSort fun a b => decide (a ≤ b)).map D.int := by
    refine (PySem.W.sort_maps D.int fun a _ b _ => ?_).symm
    have := congrFun (congrFun (PySem.W.dataLe_int (β := Int) (fun x => x)) a) b
    rw [← this]; rfl
  rw [e1]
  congr 1
  refine List.Perm.eq_of_pairwise (le := fun a b => a ≤ b) (fun a b _ _ h1 h2 => Int.le_antisymm h1 h2) ?_ hs ((List.mergeSort_perm _ _).trans hp.symm)
  have := List.pairwise_mergeSort (le := fun (a b : Int) => decide (a ≤ b)) (fun a b c h1 h2 => by simp at *; omega) (fun a b => by simp; omega) ms
  exact this.imp fun h => by simpa using h
theorem perm_map {α β : Type} {f : α → β} {ys m : List β} (h : ys.Perm m) : ∀ {l : List α}, m = l.map f → ∃ zs : List α, zs.Perm l ∧ ys = zs.map f := by
  induction h with
  | nil =>
    intro l e
    cases l with
    | nil => exact ⟨[], .nil, rfl⟩
    | cons _ _ => simp at e
  | cons x _ ih =>
    intro l e
    cases l with
    | nil => simp at e
    | cons a l =>
      simp only [List.map_cons, List.cons.injEq] at e
      obtain ⟨zs, h1, h2⟩ := ih e.2
      exact ⟨a :: zs, h1.cons a, by rw [h2, e.1]; rfl⟩
  | swap x y t =>
    intro l e
    cases l with
    | nil => simp at e
    | cons a l =>
      cases l with
      | nil => simp at e
      | cons b l =>
        simp only [List.map_cons, List.cons.injEq] at e
        exact ⟨b :: a :: l, .swap a b l, by rw [e.1, e.2.1, e.2.2]; rfl⟩
  | trans _ _ ih1 ih2 =>
    intro l e
    obtain ⟨zs, h1, h2⟩ := ih2 e
    obtain ⟨ws, h3, h4⟩ := ih1 h2
    exact ⟨ws, h3.trans h1, h4⟩
theorem cps_of (x : String) : (Str.ofString x).cps.toList = codes x := by rw [Str.ofString_eq_toList]; rfl
theorem codes_inj {x y : String} (h : codes x = codes y) : x = y := by
  have : Str.ofString x = Str.ofString y := by
    rw [Str.ofString_eq_toList, Str.ofString_eq_toList]
    exact congrArg (fun l : List Nat => (⟨l.toArray⟩ : Str)) h
  exact ofString_inj.mp this
theorem pairwise_sortedS : ∀ {zs : List Str}, sortedS zs = true → zs.Pairwise fun a b => ¬ b.cps.toList < a.cps.toList := by
  have go : ∀ (zs : List Str) (p : Str), risingS p zs = true → (p :: zs).Pairwise fun a b => ¬ b.cps.toList < a.cps.toList := by
    intro zs
    induction zs with
    | nil => intro p _; simp
    | cons x zs ih =>
      intro p h
      simp only [risingS, Bool.and_eq_true, Bool.not_eq_true', PyProof.Rows.ltCps_eq, decide_eq_false_iff_not] at h
      have i := ih x h.2
      refine List.pairwise_cons.mpr ⟨fun b hb => ?_, i⟩
      rcases List.mem_cons.mp hb with rfl | hb
      · exact h.1
      · have h2 := (List.pairwise_cons.mp i).1 b hb
        exact List.not_lt.mpr (List.le_trans (List.not_lt.mp h.1) (List.not_lt.mp h2))
  intro zs h
  cases zs with
  | nil => simp
  | cons x zs => exact go zs x h
theorem key_sort_strs {zs ns : List String} (hp : zs.Perm ns) (hs : zs.Pairwise fun a b => ¬ codes b < codes a) : sortD (ns.map D.str) = zs.map D.str := by
  have e1 : sortD (ns.map D.str) = (ns.mergeSort fun a b => decide (codes a ≤ codes b)).map D.str := by
    refine (PySem.W.sort_maps D.str fun a _ b _ => ?_).symm
    have := congrFun (congrFun (PySem.W.dataLe_str (β := String) Str.ofString) a) b
    rw [cps_of, cps_of] at this
    rw [← this]; rfl
  rw [e1]
  congr 1
  refine List.Perm.eq_of_pairwise (le := fun a b => codes a ≤ codes b) (fun a b _ _ h1 h2 => codes_inj (List.le_antisymm h1 h2)) ?_ (hs.imp fun h => List.not_lt.mp h) ((List.mergeSort_perm _ _).trans hp.symm)
  have := List.pairwise_mergeSort (le := fun (a b : String) => decide (codes a ≤ codes b)) (fun a b c h1 h2 => by
    simp only [decide_eq_true_eq] at *
    exact List.le_trans h1 h2) (fun a b => by
    simp only [Bool.or_eq_true, decide_eq_true_eq]
    exact List.le_total _ _) ns
  exact this.imp fun h => by simpa using h
theorem cr_sortd {pins : List (Addr × Obj)} {s : Shared} {σ : L2.St} {H : Hp} {Q : VK} {Dz : Addr → Prop} {kvs : List (D × D)} {es : List (L2.Key × V)} {a : Addr} {us : List Value} (hc : X.calm = true) (I : L2.Inv X pins σ H s) (r : Vals [V.ref a] us) (hd : H a = some (.dK es))
    (hk : KeyL kvs es) (ok : keySort (keysOf kvs) = true) (tk : ∀ a, Dz a → H a ≠ none) (f : Fin X.K H Dz 1 (.lst (sortD (keysOf kvs))) Q) : wpAny (model X.prog X.w) X.A (call (.builtin "sorted") us) (EP X pins σ Q) X.xe s := by
  unfold keySort at ok
  simp only [Bool.and_eq_true, Bool.or_eq_true, decide_eq_true_eq] at ok
  obtain ⟨ok, h64⟩ := ok
  have kr := keys_rps (K := X.K) (H := H) (Dz := Dz) hk
  rcases ok with ok | ok
  · obtain ⟨ns, en⟩ := Option.isSome_iff_exists.mp ok
    obtain ⟨e1, e2⟩ := rps_ints kr en
    have ek : es.map (·.1) = ns.map Sum.inl := by
      have go : ∀ {es : List (L2.Key × V)} {ns : List Int}, (es.map fun p => kV p.1) = ns.map V.int → es.map (·.1) = ns.map Sum.inl := by
        intro es
        induction es with
        | nil => intro ns e; cases ns with
          | nil => rfl
          | cons _ _ => simp at e
        | cons p es ih => intro ns e; cases ns with
          | nil => simp at e
          | cons n ns =>
            simp only [List.map_cons, List.cons.injEq] at e
            rw [List.map_cons, List.map_cons, ih e.2]
            congr 1
            have := e.1
            cases hp : p.1 with
            | inl i => rw [hp] at this; cases this; rfl
            | inr x => rw [hp] at this; cases this
      exact go e1
    refine call_sortedDI hc pins s σ H _ us Q I r ⟨a, es, ns, rfl, .inl hd, ek, ?_, fun ys p hp hs hn => ?_⟩
    · rw [e2, List.length_map] at h64; exact h64
    · have es' := key_sort_ints hp hs
      rw [← e2] at es'
      have hy : ∀ y ∈ ys, y ∈ ns := fun y m => hp.mem_iff.mp m
      rw [es'] at f
      exact f.lst tk (Rps.iff0.mpr ⟨by simp, fun j d w q1 q2 => by
        rw [List.getElem?_map] at q1 q2
        cases q : ys[j]? with
        | none => rw [q] at q1; cases q1
        | some y => rw [q] at q1 q2; cases q1; cases q2; exact .int _⟩) p hn
  · obtain ⟨ns, en⟩ := Option.isSome_iff_exists.mp ok
    obtain ⟨e1, e2, e3⟩ := rps_strs kr en
    have ek : es.map (·.1) = (ns.map Str.ofString).map Sum.inr := by
      have go : ∀ {es : List (L2.Key × V)} {ns : List String}, (es.map fun p => kV p.1) = ns.map (fun x => V.str (Str.ofString x)) → es.map (·.1) = (ns.map Str.ofString).map Sum.inr := by
        intro es
        induction es with
        | nil => intro ns e; cases ns with
          | nil => rfl
          | cons _ _ => simp at e
        | cons p es ih => intro ns e; cases ns with
          | nil => simp at e
          | cons n ns =>
            simp only [List.map_cons, List.cons.injEq] at e
            rw [List.map_cons, List.map_cons, List.map_cons, ih e.2]
            congr 1
            have := e.1
            cases hp : p.1 with
            | inl i => rw [hp] at this; cases this
            | inr x => rw [hp] at this; cases this; rfl
      exact go e1
    refine call_sortedD hc pins s σ H _ us Q I r ⟨a, es, ns.map Str.ofString, rfl, .inl hd, ek, ?_, fun ys p hp hs hn => ?_⟩
    · rw [e2, List.length_map] at h64; rw [List.length_map]; exact h64
    · obtain ⟨zs, hz, rfl⟩ : ∃ zs : List String, zs.Perm ns ∧ ys = zs.map Str.ofString := perm_map hp rfl
      have es' : sortD (ns.map D.str) = zs.map D.str := by
        refine key_sort_strs hz ?_
        have := pairwise_sortedS hs
        rw [List.pairwise_map] at this
        exact this.imp fun h => by rw [cps_of, cps_of] at h; exact h
      rw [e2, es'] at f
      refine f.lst tk (Rps.iff0.mpr ⟨by simp, fun j d w q1 q2 => ?_⟩) p hn
      rw [List.getElem?_map] at q1 q2
      rw [List.getElem?_map] at q2
      cases q : zs[j]? with
      | none => rw [q] at q1; cases q1
      | some y =>
        rw [q] at q1 q2; cases q1; cases q2
        exact .str _ (e3 y (hz.mem_iff.mp (List.mem_of_getElem? q)))
theorem callr_bi (hu : X.A.units + 100 < cLine) (hc : X.calm = true) (b : Bi) (hs : b ≠ .sortset) : CallR X b.val (rBi X.K b) := by
  intro pins s σ H vs us Q I r h
  obtain ⟨Dz, ds, j, d, hl, ha, tk, e, f⟩ := h
  have val1 : ∀ {v : V}, vs = [v] → ∃ u, us = [u] ∧ RelV v u := fun {v} ev => by
    subst ev
    cases r with
    | cons r1 r2 => cases r2; exact ⟨_, rfl, r1⟩
  unfold biD at e
  split at e
  · obtain ⟨v, k, G, rfl, hk, h1⟩ := one_arg hl ha
    rename_i x
    cases b with
    | len =>
      cases x <;> simp only [bi1] at e <;> try cases e
      · cases h1 with
        | str x hx => exact call_len_str pins s σ H _ us Q I r ⟨_, rfl, by rw [ofString_length, ← big_size]; exact hx, by rw [ofString_length]; exact f.val tk (.int _)⟩
      · obtain ⟨a, ws, jj, F, rfl, ht, hr⟩ := h1.tupAny
        exact call_len_seq pins s σ H _ us Q I r ⟨a, ws, rfl, .inr ht.sq, by rw [← hr.len]; exact f.val tk (.int _)⟩
      · obtain ⟨a, ws, jj, F, rfl, ht, hr⟩ := h1.lstAny
        exact call_len_seq pins s σ H _ us Q I r ⟨a, ws, rfl, .inl (.of ht), by rw [← hr.len]; exact f.val tk (.int _)⟩
      · obtain ⟨a, es, jj, F, rfl, e2, e4, e5, _, _⟩ := h1.dct
        have hl2 := congrArg List.length e4.1
        rw [List.length_map, List.length_map] at hl2
        exact call_lenD pins s σ H _ us Q I r ⟨a, es, rfl, e2, by rw [← hl2]; exact f.val tk (.int _)⟩
    | all =>
      cases x <;> simp only [bi1] at e <;> try cases e
      rw [Option.map_eq_some_iff] at e
      obtain ⟨bs, e1, e2⟩ := e
      cases e2
      obtain ⟨a, ws, jj, F, rfl, ht, hr⟩ := h1.lstAny
      have := rps_bools hr e1
      subst this
      exact cr_all hc pins s σ H _ us Q I r ⟨a, bs, rfl, .of ht, f.val tk (.bl _)⟩
    | sum =>
      cases x <;> simp only [bi1] at e <;> try cases e
      rw [Option.map_eq_some_iff] at e
      obtain ⟨bs, e1, e2⟩ := e
      cases e2
      obtain ⟨a, ws, jj, F, rfl, ht, hr⟩ := h1.lstAny
      obtain ⟨rfl, _⟩ := rps_ints hr e1
      exact cr_sum hc pins s σ H _ us Q I r ⟨a, bs, rfl, .of ht, f.val tk (.int _)⟩
    | sorted =>
      obtain ⟨u, rfl, ru⟩ := val1 rfl
      cases x <;> simp only [bi1] at e <;> try cases e
      · split at e
        · rename_i ok
          cases e
          obtain ⟨a, ws, rfl, ht, hr⟩ := h1.lst1 (hk rfl)
          exact cr_sort hu I ru ht hr ok tk f
        · cases e
      · split at e
        · rename_i ok
          cases e
          obtain ⟨a, es, jj, F, rfl, e2, e4, e5, _, _⟩ := h1.dct
          exact cr_sortd hc I r e2 e4 ok tk f
        · cases e
    | list =>
      cases x <;> simp only [bi1] at e <;> try cases e
      · obtain ⟨a, ws, rfl, ht, hr⟩ := h1.tup1 (hk rfl)
        exact call_list_of pins s σ H _ us Q I r ⟨a, ws, rfl, .inr ht.sq, f.lst tk hr⟩
      · obtain ⟨a, ws, rfl, ht, hr⟩ := h1.lst1 (hk rfl)
        exact call_list_of pins s σ H _ us Q I r ⟨a, ws, rfl, .inl (.of ht), f.lst tk hr⟩
      · obtain ⟨a, es, jj, F, rfl, e2, e4, e5, _, _⟩ := h1.dct
        exact call_listD hc pins s σ H _ us Q I r ⟨a, es, rfl, .inl e2, f.lst tk (keys_rps e4)⟩
      · cases h1 with
        | scr hs hr =>
          obtain rfl := hr.nil0
          exact call_list_of pins s σ H _ us Q I r ⟨_, _, rfl, .inl hs.sq, f.lst tk hr⟩
      · cases h1 with
        | nz z h e l hr =>
          obtain rfl := hr.nil0
          exact call_listN hc pins s σ H _ us Q I r ⟨_, _, rfl, h, f.lst tk hr⟩
        | no_ h e l hr =>
          obtain rfl := hr.nil0
          exact call_listN hc pins s σ H _ us Q I r ⟨_, _, rfl, h, f.lst tk hr⟩
    | tuple =>
      cases x <;> simp only [bi1] at e <;> try cases e
      · obtain ⟨a, ws, rfl, ht, hr⟩ := h1.tup1 (hk rfl)
        exact call_tupleU pins s σ H _ us Q I r ⟨a, ws, rfl, .inr ⟨ht.sq, f.val tk (.tup ht hr)⟩⟩
      · obtain ⟨a, ws, rfl, ht, hr⟩ := h1.lst1 (hk rfl)
        exact call_tupleU pins s σ H _ us Q I r ⟨a, ws, rfl, .inl ⟨.of ht, f.tup tk hr⟩⟩
    | dict =>
      cases x <;> simp only [bi1] at e <;> try cases e
      · rw [Option.map_eq_some_iff] at e
        obtain ⟨ps, e1, e2⟩ := e
        cases e2
        obtain ⟨a, ws, rfl, ht, hr⟩ := h1.tup1 (hk rfl)
        obtain ⟨as, kvs, rfl, q2, q3, q4⟩ := rps_pairs hr e1
        obtain ⟨m1, m2⟩ := merge_ok (kvs := []) (es := []) q3 q4 keyl_nil .nil
        exact call_dictU hc pins s σ H _ us Q I r ⟨a, as, kvs, rfl, ht, q2, f.dct tk m1 m2⟩
      · rw [Option.map_eq_some_iff] at e
        obtain ⟨ps, e1, e2⟩ := e
        cases e2
        obtain ⟨a, ws, rfl, ht, hr⟩ := h1.lst1 (hk rfl)
        obtain ⟨as, kvs, rfl, q2, q3, q4⟩ := rps_pairs hr e1
        obtain ⟨m1, m2⟩ := merge_ok (kvs := []) (es := []) q3 q4 keyl_nil .nil
        exact call_dictP hc pins s σ H _ us Q I r ⟨a, as, kvs, rfl, .of ht, paired_imp (fun _ _ z => z.sq) q2, f.dct tk m1 m2⟩
    | int =>
      obtain ⟨u, rfl, ru⟩ := val1 rfl
      cases x <;> simp only [bi1] at e <;> try cases e
      · cases h1
        cases ru
        exact call_int_bool ⟨.int _, H, I.tok _, ⟨_, rfl⟩, f.val tk (.int _)⟩
      · cases h1
        obtain ⟨n, rfl⟩ := ru
        exact call_int_int ⟨.int _, H, I, ⟨_, rfl⟩, f.val tk (.int _)⟩
    | sortset => exact absurd rfl hs
    | _ => simp only [bi1] at e; cases e
  · obtain ⟨v, w, k1, G1, k2, G2, rfl, h1, h2⟩ := two_args hl ha
    rename_i x y
    cases b with
    | max2 =>
      cases x <;> cases y <;> simp only [bi2] at e <;> try cases e
      cases h1; cases h2
      exact call_max2 hc pins s σ H _ us Q I r ⟨_, _, rfl, f.val tk (.int _)⟩
    | min2 =>
      cases x <;> cases y <;> simp only [bi2] at e <;> try cases e
      cases h1; cases h2
      exact call_min2 hc pins s σ H _ us Q I r ⟨_, _, rfl, f.val tk (.int _)⟩
    | _ => simp only [bi2] at e; cases e
  · cases e
end Ti
end

section
namespace Ti
open PySem PySem.Spec PyProof.Rows L2
variable [PWc]

variable {cf : Nat → List Arg → Rs} {io : List Nat} {X : Cx}
def Bi.nm : Bi → String
  | .len => "len" | .all => "all" | .sum => "sum" | .sorted => "sorted" | .list => "list" | .tuple => "tuple" | .dict => "dict"
  | .str => "str" | .int => "int" | .min2 => "min" | .max2 => "max" | .min1 => "min" | .setlen => "?" | .sortset => "?"
def Bi.okB : Bi → Bool
  | .len | .all | .sum | .sorted | .list | .tuple | .dict | .int | .min2 | .max2 => true
  | _ => false
theorem boot_bi {b : Bi} (h : b.okB = true) : bootBuiltins (Str.ofString b.nm) = some b.val ∧ (Str.ofString b.nm) ≠ ("__name__" : Str) ∧ ((Str.ofString b.nm) == ("__debug__" : Str)) = false := by
  cases b <;> first | (exfalso; revert h; decide) | exact ⟨by decide +kernel, by decide +kernel, by decide +kernel⟩
theorem shs_map : ∀ {rs : List RV} {ds : List D}, shs rs = some ds → ds = rs.map RV.d
  | [], ds, e => by cases e; rfl
  | r :: rs, ds, e => by
    unfold shs at e
    split at e
    · rename_i d ds' e1 e2
      cases e
      rw [List.map_cons, ← shs_map e2]
      unfold RV.sh at e1
      split at e1
      · cases e1; rfl
      · cases e1
    · cases e
theorem good_bi {b : Bi} {es : List E} {x : Str} {a : Expr} {as : List Expr} {p pos : Pos} (hu : X.A.units + 100 < cLine) (hc : X.calm = true) (hx : x = Str.ofString b.nm) (hb : b.okB = true) (hg : Gl X x) (hm : X.mg x = none) (h : Goods cf io X es (a :: as)) :
    Good cf io X (.bi b es) (.Call (.Name x p) (a :: as) [] pos) := by
  subst hx
  obtain ⟨h1, h2, h3⟩ := boot_bi hb
  have hs := h.star
  rw [List.all_cons, Bool.and_eq_true] at hs
  have rd : ∀ σ H Q, tE cf io X.K (.bi b es) σ H Q → tCB (rBi X.K b) (tAs cf io X.K es) σ H Q := by
    rintro σ H Q ⟨B, Dz, F, s, R, r, s', q, c⟩
    rw [evE] at q
    obtain ⟨as, s1, ea, q⟩ := Ev.bind_ok q
    split at q
    · rename_i rs e1
      split at q
      · rename_i ds e2
        obtain ⟨k, d, e, rfl, rfl⟩ := rk_ok q
        refine tAs.next cf io R ea fun Dz1 F1 H1 vs G t1 R1 o1 g1 => ?_
        refine ⟨Dz1, ds, k, d, ?_, ?_, R1.tk, e, c.fin (t1.mono fun i hi => by simpa [E.muts] using hi) R1⟩
        · split at e2
          · exact (o1.shs e1 e2).1
          · cases e2
            rw [List.length_map]; exact (o1.ds e1).1
        · intro i d v q1 q2
          split at e2
          · obtain ⟨k, G', hk, h'⟩ := (o1.shs e1 e2).2 i d v q1 q2
            exact ⟨k, G', fun _ => hk, h'⟩
          · rename_i hns
            cases e2
            obtain ⟨k, G', h'⟩ := (o1.ds e1).2 i d v q1 q2
            exact ⟨k, G', fun z => absurd z hns, h'⟩
      · cases q
    · cases q
  refine .of (PE.imp ?_ rd) rfl
  have hcr := callr_bi (X := X) hu hc b (by rintro rfl; cases hb)
  cases b <;> first
    | (exfalso; revert hb; decide)
    | exact pe_callB hcr hg hm h1 h.val h2 h3 (star_cons hs.1 _ _) (star_any hs.2)
    | exact pe_callTy hcr hg hm h1 h.val h2 h3 (star_cons hs.1 _ _) (star_any hs.2)

/-! ### isinstance -/
def Ty.nm : Ty → String
  | .int => "int" | .str => "str" | .bool => "bool" | .tuple => "tuple" | .list => "list" | .own c => c
def Ty.okT : Ty → Bool
  | .own _ => false
  | _ => true
def tyOf : D → Option Value
  | .non => some (.type "NoneType") | .bl _ => some (.type "bool") | .int _ => some (.type "int") | .str _ => some (.type "str") | .tup _ => some (.type "tuple") | .lst _ => some (.type "list") | .dct _ => some (.type "dict") | _ => none
theorem tyx_of {K : PySem.W.Frag} {H : Hp} {Dz : Addr → Prop} {k : Nat} {d : D} {v : V} {G : List Addr} (h : Rp K H Dz k d v G) (hn : ∀ xs, d ≠ .scr xs) (hi : ∀ c fs, d ≠ .ins c fs) (hq : ∀ ks, d ≠ .dcn ks) : ∃ t, tyOf d = some t ∧ TyX K H v t := by
  cases h with
  | non => exact ⟨_, rfl, .base .non⟩
  | bl b => exact ⟨_, rfl, .base (.bl b)⟩
  | int i => exact ⟨_, rfl, .base (.int i)⟩
  | str x => exact ⟨_, rfl, .base (.str _)⟩
  | tup h r =>
    refine ⟨_, rfl, ?_⟩
    rcases h with ⟨o, _, h⟩ | ⟨o, its, n, h1, h2, _⟩
    · exact .fTuple h
    · exact .kTuple h1 h2
  | lz z h r => exact ⟨_, rfl, .base (.lst h)⟩
  | lo h r => exact ⟨_, rfl, .base (.lst h)⟩
  | scr h r => exact absurd rfl (hn _)
  | dz z h e r => exact ⟨_, rfl, .base (.dK h)⟩
  | do_ h e r => exact ⟨_, rfl, .base (.dK h)⟩
  | nz => exact absurd rfl (hq _)
  | no_ => exact absurd rfl (hq _)
  | iz => exact absurd rfl (hi _ _)
  | io_ => exact absurd rfl (hi _ _)

theorem kit_is {K : PySem.W.Frag} {d : D} {t : Ty} {u : Value} (hn : ∀ xs, d ≠ .scr xs) (ht : t.okT = true) (hu : tyOf d = some u) : PySem.W.kitOne K u (.type t.nm) = some (isTy t d) := by
  cases t <;> first
    | (cases ht; done)
    | (cases d with
        | scr xs => exact absurd rfl (hn _)
        | ins c fs => cases hu
        | dcn ks => cases hu
        | _ => cases hu; refine kit_ty ?_; simp only [isTy, Ty.nm]; decide +kernel)
theorem boot_ty {t : Ty} (h : t.okT = true) : bootBuiltins (Str.ofString t.nm) = some (.type t.nm) ∧ (Str.ofString t.nm) ≠ ("__name__" : Str) ∧ ((Str.ofString t.nm) == ("__debug__" : Str)) = false := by
  cases t <;> first | (cases h; done) | exact ⟨by decide +kernel, by decide +kernel, by decide +kernel⟩
theorem good_isi {t : Ty} {ea : E} {a : Expr} {x : Str} {p p1 pos : Pos} (ht : t.okT = true) (hg : Gl X ("isinstance" : Str)) (hm : X.mg ("isinstance" : Str) = none) (hx : x = Str.ofString t.nm) (hg' : Gl X x) (hm' : X.mg x = none) (ha : Good cf io X ea a) (hs : notStar a = true) :
    Good cf io X (.isi ea [t]) (.Call (.Name "isinstance" p) [a, .Name x p1] [] pos) := by
  subst hx
  obtain ⟨h1, h2, h3⟩ := boot_ty ht
  have pa : PA X [a, .Name (Str.ofString t.nm) p1] _ := pa_cons ha.val (pa_cons (pe_bltn (v := .ty t.nm) hg' hm' h1 rfl h2 h3) pa_nil (star_cons rfl _ _)) (star_cons hs _ _)
  refine .of (PE.imp (pe_callB call_isi hg hm (by decide +kernel) pa (by decide) (by decide) (star_cons hs _ _) (star_any (by simp [hs, notStar]))) ?_) rfl
  rintro σ H Q ⟨B, Dz, F, s, R, r, s', q, c⟩
  rw [evE] at q
  obtain ⟨ra, s1, ea', q⟩ := Ev.bind_ok q
  refine tE.next cf io R ea' fun Dz1 F1 H1 v G1 t1 R1 o1 g1 => ?_
  obtain ⟨_, q1⟩ := o1.rp
  have hn : ∀ xs, ra.d ≠ .scr xs := by
    intro xs e
    rw [e] at q
    cases q
  have hi : ∀ c fs, ra.d ≠ .ins c fs := by
    intro c fs e
    rw [e] at q
    cases q
  have hq : ∀ ks, ra.d ≠ .dcn ks := by
    intro ks e
    rw [e] at q
    cases q
  obtain ⟨u, eu, ty⟩ := tyx_of q1 hn hi hq
  refine ⟨v, .ty t.nm, u, .type t.nm, isTy t ra.d, rfl, .ty _, ty, kit_is hn ht eu, ?_⟩
  split at q
  · cases q
  · cases q
  · cases q
  · cases q
    have : (List.any [t] fun t => isTy t ra.d) = isTy t ra.d := by simp
    rw [this] at c
    exact c.val t1 R1 (.bl _)
theorem good_isi2 {t1 t2 : Ty} {ea : E} {a : Expr} {x y : Str} {p p1 p2 pt pos : Pos} {k : Nat} (ht1 : t1.okT = true) (ht2 : t2.okT = true) (hg : Gl X ("isinstance" : Str)) (hm : X.mg ("isinstance" : Str) = none) (hx : x = Str.ofString t1.nm) (hgx : Gl X x) (hmx : X.mg x = none) (hy : y = Str.ofString t2.nm) (hgy : Gl X y) (hmy : X.mg y = none)
    (ha : Good cf io X ea a) (hs : notStar a = true) : Good cf io X (.isi ea [t1, t2]) (.Call (.Name "isinstance" p) [a, .Tuple [.Name x p1, .Name y p2] k pt] [] pos) := by
  subst hx hy
  obtain ⟨h1, h2, h3⟩ := boot_ty ht1
  obtain ⟨g1, g2, g3⟩ := boot_ty ht2
  have tp : PE X (.Tuple [.Name (Str.ofString t1.nm) p1, .Name (Str.ofString t2.nm) p2] k pt) _ := pe_tup (pa_cons (pe_bltn (v := .ty t1.nm) hgx hmx h1 rfl h2 h3) (pa_cons (pe_bltn (v := .ty t2.nm) hgy hmy g1 rfl g2 g3) pa_nil (star_cons rfl _ _)) (star_cons rfl _ _))
  have pa : PA X [a, .Tuple [.Name (Str.ofString t1.nm) p1, .Name (Str.ofString t2.nm) p2] k pt] _ := pa_cons ha.val (pa_cons tp pa_nil (star_cons rfl _ _)) (star_cons hs _ _)
  refine .of (PE.imp (pe_callB call_isiT hg hm (by decide +kernel) pa (by decide) (by decide) (star_cons hs _ _) (star_any (by simp [hs, notStar]))) ?_) rfl
  rintro σ H Q ⟨B, Dz, F, s, R, r, s', q, c⟩
  rw [evE] at q
  obtain ⟨ra, s1, ea', q⟩ := Ev.bind_ok q
  refine tE.next cf io R ea' fun Dz1 F1 H1 v G1 u1 R1 o1 g1 => ?_
  have hn : ∀ xs, ra.d ≠ .scr xs := by
    intro xs e
    rw [e] at q
    cases q
  have hi : ∀ c fs, ra.d ≠ .ins c fs := by
    intro c fs e
    rw [e] at q
    cases q
  have hq : ∀ ks, ra.d ≠ .dcn ks := by
    intro ks e
    rw [e] at q
    cases q
  refine ⟨by show 2 ≤ sizeLine; decide, fun tpa hp => ?_⟩
  have sm := same_new (o := .tup [.ty t1.nm, .ty t2.nm]) hp
  have tk2 : ∀ a, Dz1 a → upd H1 tpa (.tup [.ty t1.nm, .ty t2.nm]) a ≠ none := fun a z => by
    by_cases e : a = tpa
    · rw [e, upd_same]; exact fun z => nomatch z
    · rw [upd_ne e]; exact R1.tk a z
  have R2 := R1.grow sm (fun _ z => z) (fun _ z => .inl z) tk2
  have o2 := o1.grow R1 sm (fun _ z => z) (fun _ z => .inl z)
  have u2 := (u1.trans (Tr.grow sm (fun _ z => z) (fun _ z => .inl z))).mono (M1 := E.muts ea) fun i hi => by simpa using hi
  obtain ⟨_, q1⟩ := o2.rp
  obtain ⟨u, eu, ty⟩ := tyx_of q1 hn hi hq
  refine ⟨v, tpa, [.ty t1.nm, .ty t2.nm], u, [.type t1.nm, .type t2.nm], isTy t1 ra.d || isTy t2 ra.d, rfl, upd_same, .cons (.ty _) (.cons (.ty _) .nil), ty, ?_, ?_⟩
  · refine kitAny_cons (kit_is hn ht1 eu) (fun e => ?_) fun e => by rw [e]; rfl
    rw [e]
    refine kitAny_cons (kit_is hn ht2 eu) (fun e => ?_) fun e => by rw [e]; rfl
    rw [e]
    exact kitAny_nil
  · split at q
    · cases q
    · cases q
    · cases q
    · cases q
      have : (List.any [t1, t2] fun t => isTy t ra.d) = (isTy t1 ra.d || isTy t2 ra.d) := by simp
      rw [this] at c
      exact c.val u2 R2 (.bl _)
end Ti
end

section
namespace Ti
open PySem PySem.Spec PyProof.Rows L2
variable [PWc]

variable {cf : Nat → List Arg → Rs} {io : List Nat} {X : Cx}
theorem Rp.zero {K : PySem.W.Frag} {H : Hp} {Dz : Addr → Prop} {k : Nat} {d : D} {v : V} {G : List Addr} (h : Rp K H Dz k d v G) (hk : k ≤ 1) (hs : Ti.solid 1 d = true) : Rp K H Dz 0 d v [] := by
  cases h with
  | non => exact .non
  | bl b => exact .bl b
  | int i => exact .int i
  | str x hx => exact .str x hx
  | tup h r =>
    have e : k - 1 = 0 := by omega
    rw [e] at r
    obtain rfl := r.nil0
    exact .tup h r
  | scr h r =>
    obtain rfl := r.nil0
    exact .scr h r
  | lz z h r => cases hs
  | lo h r => cases hs
  | dz z h e r => cases hs
  | do_ h e r => cases hs
  | iz => cases hs
  | nz => cases hs
  | no_ => cases hs
  | io_ => cases hs
theorem good_rev {ea : E} {a : Expr} {k : Nat} {p1 p2 p3 pos : Pos} (ha : Good cf io X ea a) : Good cf io X (.rev ea) (.Subscript a (.Slice none none (some (.UnaryOp .USub (.Constant (.int 1) k p1) p2)) p3) pos) := by
  refine .of (PE.imp (pe_revA ha.val) ?_) rfl
  rintro σ H Q ⟨B, Dz, F, s, R, r, s', q, c⟩
  rw [evE] at q
  obtain ⟨ra, s1, e1, q⟩ := Ev.bind_ok q
  split at q
  · rename_i x ex
    obtain ⟨k, d, e, rfl, rfl⟩ := rk_ok q
    refine tE.next cf io R e1 fun Dz1 F1 H1 v G1 t1 R1 o1 g1 => ?_
    obtain ⟨k1, G1', hk1, p1⟩ := sh_rp o1 ex
    have f := c.fin t1 R1
    cases x <;> simp only [revD] at e <;> cases e
    · obtain ⟨a, vs, rfl, hq, hr⟩ := p1.tup1 hk1
      exact ⟨a, vs, rfl, .inr ⟨hq, f.tup R1.tk hr.rev0⟩⟩
    · obtain ⟨a, vs, rfl, hq, hr⟩ := p1.lst1 hk1
      exact ⟨a, vs, rfl, .inl ⟨.of hq, f.lst R1.tk hr.rev0⟩⟩
  · cases q

/-! ### methods of values -/
def plainBase : Expr → Bool
  | .Call (.Name _ _) [] [] _ => false
  | _ => true
theorem base_of {o : Expr} (h : plainBase o = true) (m : Str) (env : Env) (w : Sem Value) : attributeBase o m env w = w := by
  unfold attributeBase
  split
  · exact absurd h (by simp [plainBase])
  · rfl
theorem few_of {es : List Expr} {cpos : Pos} {env : Env} (h : es.all notStar = true) (hl : es.length < 30) :
    ((backTo cpos (starEach es env)).all (fun x => !x.1) && (backToKw cpos (keywordEach [] env)).all (fun x => x.1.isSome)
    && decide (es.length + ([] : List Keyword).length + (if ([] : List Keyword).isEmpty then 0 else 1) < 30)) = true := by
  have h1 : (backTo cpos (starEach es env)).all (fun x => !x.1) = true := by
    have := star_any (pos := cpos) (env := env) h
    rw [List.any_eq_false] at this
    rw [List.all_eq_true]
    intro x hx
    have := this x hx
    simpa using this
  rw [h1]
  simp only [Bool.true_and, Bool.and_eq_true, decide_eq_true_eq]
  exact ⟨rfl, by simpa using hl⟩
theorem trees2 {e f : Expr} {cpos : Pos} {env : Env} (h1 : notStar e = true) (h2 : notStar f = true) : backTo cpos (starEach [e, f] env) = [(false, eval e env), (false, eval f env)] := by
  rw [star_cons h1, star_cons h2]
  rfl
theorem evAs_cons {e : E} {es : List E} {s s' : Sl} {as : List AV} (hni : ∀ i, e ≠ .io i) (h : evAs cf io (e :: es) s = .ok as s') :
    ∃ r s1 as1, evE cf io e s = .ok r s1 ∧ clash r.src (E.mutss es) = false ∧ evAs cf io es s1 = .ok as1 s' ∧ as = .rv r :: as1 := by
  rw [evAs] at h
  · obtain ⟨r, s1, h1, h⟩ := Ev.bind_ok h
    split at h
    · cases h
    rename_i hc
    obtain ⟨as1, s2, h2, h⟩ := Ev.bind_ok h
    cases h
    exact ⟨r, s1, as1, h1, by simpa using hc, h2, rfl⟩
  · exact hni
theorem good_get {eo e1 e2 : E} {o a b : Expr} {apos cpos : Pos} (hu : X.A.units + 1 < cLine) (ho : Good cf io X eo o) (h1 : Good cf io X e1 a) (h2 : Good cf io X e2 b) (hi1 : ∀ i, e1 ≠ .io i) (hi2 : ∀ i, e2 ≠ .io i) (hb : plainBase o = true) (s1 : notStar a = true) (s2 : notStar b = true) (hl : (apos.endLine == cpos.line) = true) :
    Good cf io X (.bm .get eo [e1, e2]) (.Call (.Attribute o "get" apos) [a, b] [] cpos) := by
  refine .of (PE.imp (pe_dget2 hu ho.val h1.val h2.val ⟨base_of hb _ _ _, few_of (by simp [s1, s2]) (by simp), hl, trees2 s1 s2⟩) ?_) rfl
  rintro σ H Q ⟨B, Dz, F, s, R, r, s', q, c⟩
  rw [evE] at q
  obtain ⟨ro, t1, q1, q⟩ := Ev.bind_ok q
  split at q
  · cases q
  rename_i hc
  obtain ⟨as, t3, q2, q⟩ := Ev.bind_ok q
  obtain ⟨r1, t2, as1, qa, hc1', q3, rfl⟩ := evAs_cons hi1 q2
  obtain ⟨r2, t4, as2, qb, _, q4, rfl⟩ := evAs_cons hi2 q3
  rw [evAs] at q4
  cases q4
  split at q
  · rename_i x ds ex eds
    obtain ⟨k, d, e, rfl, rfl⟩ := rk_ok q
    have hcc : clash ro.src (E.muts e1) = false ∧ clash ro.src (E.muts e2) = false := by
      have : clash ro.src (E.mutss [e1, e2]) = false := by simpa using hc
      simp only [E.mutss, List.append_nil] at this
      unfold clash at this ⊢
      rw [List.any_eq_false] at this
      exact ⟨List.any_eq_false.mpr fun i hi => by have := this i hi; simp at this ⊢; exact this.1, List.any_eq_false.mpr fun i hi => by have := this i hi; simp at this ⊢; exact this.2⟩
    have hc1' : clash r1.src (E.muts e2) = false := by simpa only [E.mutss, List.append_nil] using hc1'
    refine tE.next cf io R q1 fun Dz1 F1 H1 v G1 u1 R1 o1 g1 => ?_
    have hds : ds = [r1.d, r2.d] := by
      simp only [AV.rvs, Option.map_some, Option.bind_some] at eds
      exact shs_map eds
    subst hds
    simp only [AV.rvs, Option.map_some, Option.bind_some] at eds
    have sh1 : r1.sh = some r1.d ∧ r2.sh = some r2.d := by
      simp only [shs] at eds
      split at eds
      · rename_i d ds f1 f2
        split at f2
        · rename_i d' ds' f3 f4
          cases f4
          cases f2
          have e1 : d = r1.d := by cases eds; rfl
          have e2 : d' = r2.d := by cases eds; rfl
          subst e1 e2
          exact ⟨f1, f3⟩
        · cases f2
      · cases eds
    obtain ⟨k1, G1', hk1, p1⟩ := sh_rp o1 ex
    cases x with
    | dct kvs =>
      simp only [bmD] at e
      split at e
      · rename_i hk
        cases e
        obtain ⟨a, es, j, Fk, rfl, ha, _⟩ := p1.dct
        refine ⟨a, rfl, .inl ⟨es, .inl ha⟩, ?_⟩
        refine tE.next cf io R1 qa fun Dz2 F2 H2 w G2 u2 R2 o2 g2 => ?_
        refine tE.next cf io R2 qb fun Dz3 F3 H3 z G3 u3 R3 o3 g3 => ?_
        have o1' := (o1.tr R1 u2 hcc.1).tr R2 u3 hcc.2
        have o2' := o2.tr R2 u3 hc1'
        obtain ⟨k1, G1'', hk1, p1⟩ := sh_rp o1' ex
        obtain ⟨k2, G2', hk2, p2⟩ := sh_rp o2' sh1.1
        obtain ⟨k3, G3', hk3, p3⟩ := sh_rp o3 sh1.2
        obtain ⟨a', es', j', Fk', e', ha', kl, rv, ej, sub⟩ := p1.dct
        cases e'
        obtain ⟨ky, hy⟩ := keyOk_of hk.1
        have hv := keyV p2 hy
        have ej0 : j' = 0 := by omega
        subst ej0
        refine ⟨valV es' ky, .inl ⟨es', ky, .inl ha', hv, rfl⟩, ?_⟩
        have lk := look_val hy kl.1 rv
        have tt : Tr (E.muts (.bm .get eo [e1, e2])) Dz F H Dz3 F3 H3 := ((u1.trans u2).trans u3).mono fun i hi => by simpa [E.muts, E.mutss, or_assoc] using hi
        rcases lk with ⟨l1, l2⟩ | ⟨d, w', G4, l1, l2, l3, l4⟩
        · rw [l2]
          rw [l1] at c
          exact c.val tt R3 (p3.zero hk3 hk.2)
        · rw [l2]
          rw [l1] at c
          obtain rfl := l3.nil0
          exact c.val tt R3 l3
      · cases e
    | _ => simp only [bmD] at e; cases e
  · cases q

theorem hr_sh {r : RV} {d : D} (e : r.sh = some d) : r.d = d := by
  unfold RV.sh at e
  split at e
  · cases e; rfl
  · cases e
theorem up_nat (c : Char) : (asciiUp c).toNat = up1 c.toNat := by
  unfold asciiUp up1
  by_cases h : 'a' ≤ c ∧ c ≤ 'z'
  · have h1 : 97 ≤ c.toNat ∧ c.toNat ≤ 122 := ⟨h.1, h.2⟩
    rw [if_pos h, if_pos h1]
    have hv : (c.toNat - 32).isValidChar := by
      left
      omega
    rw [Char.ofNat, dif_pos hv]
    show (UInt32.ofNatLT _ _).toNat = _
    rfl
  · have h1 : ¬ (97 ≤ c.toNat ∧ c.toNat ≤ 122) := fun z => h ⟨z.1, z.2⟩
    rw [if_neg h, if_neg h1]
theorem upper_of {x : String} (h : x.toList.all (fun c => c.toNat < 128) = true) : Txt.upper (Str.ofString x) = Str.ofString (String.ofList (x.toList.map asciiUp)) := by
  rw [Str.ofString_eq_toList, Str.ofString_eq_toList, upper_ascii]
  · simp [up_nat, Function.comp_def]
  · intro c hc
    simp only [List.mem_map] at hc
    obtain ⟨d, hd, rfl⟩ := by simpa using hc
    have := List.all_eq_true.mp h d hd
    simpa using this
theorem good_upper {eo : E} {o : Expr} {apos cpos : Pos} (ho : Good cf io X eo o) (hb : plainBase o = true) (hl : (apos.endLine == cpos.line) = true) :
    Good cf io X (.bm .upper eo []) (.Call (.Attribute o "upper" apos) [] [] cpos) := by
  refine .of (PE.imp (pe_upper ho.val (base_of hb _ _ _) hl) ?_) rfl
  rintro σ H Q ⟨B, Dz, F, s, R, r, s', q, c⟩
  rw [evE] at q
  obtain ⟨ro, t1, q1, q⟩ := Ev.bind_ok q
  split at q
  · cases q
  obtain ⟨as, t3, q2, q⟩ := Ev.bind_ok q
  rw [evAs] at q2
  cases q2
  refine tE.next cf io R q1 fun Dz1 F1 H1 v G1 u1 R1 o1 g1 => ?_
  split at q
  · rename_i x ds ex eds
    obtain ⟨k, d, e, rfl, rfl⟩ := rk_ok q
    cases eds
    obtain ⟨k1, G1', hk1, p1⟩ := sh_rp o1 ex
    cases x with
    | str x =>
      simp only [bmD] at e
      split at e
      · rename_i h
        cases e
        cases p1 with
        | str _ hx =>
          refine ⟨⟨_, rfl⟩, _, rfl, rfl, ?_, ?_⟩
          · rw [ofString_length]; omega
          · rw [upper_of h.1]
            refine c.val (u1.mono fun i hi => by simp [E.muts, hi]) R1 (.str _ ?_)
            simpa [String.length_toList] using hx
      · cases e
    | _ => simp only [bmD] at e; cases e
  · cases q
theorem join_of (x : String) : ∀ zs : List String, Str.join (Str.ofString x) (zs.map Str.ofString) = Str.ofString (joinS x zs)
  | [] => rfl
  | [p] => rfl
  | p :: q :: r => by
    show Str.ofString p ++ Str.ofString x ++ Str.join (Str.ofString x) ((q :: r).map Str.ofString) = _
    rw [join_of x (q :: r), ofString_append, ofString_append]
    rfl
theorem good_join {eo e1 : E} {o a : Expr} {apos cpos : Pos} (ho : Good cf io X eo o) (h1 : Good cf io X e1 a) (hi1 : ∀ i, e1 ≠ .io i) (hb : plainBase o = true) (s1 : notStar a = true) (hl : (apos.endLine == cpos.line) = true) :
    Good cf io X (.bm .join eo [e1]) (.Call (.Attribute o "join" apos) [a] [] cpos) := by
  refine .of (PE.imp (pe_join ho.val h1.val (star_cons s1 _ _) (base_of hb _ _ _) hl) ?_) rfl
  rintro σ H Q ⟨B, Dz, F, s, R, r, s', q, c⟩
  rw [evE] at q
  obtain ⟨ro, t1, q1, q⟩ := Ev.bind_ok q
  split at q
  · cases q
  rename_i hc
  obtain ⟨as, t3, q2, q⟩ := Ev.bind_ok q
  obtain ⟨r1, t2, as1, qa, hc1', q3, rfl⟩ := evAs_cons hi1 q2
  rw [evAs] at q3
  cases q3
  split at q
  · rename_i x ds ex eds
    obtain ⟨k, d, e, rfl, rfl⟩ := rk_ok q
    have hcc : clash ro.src (E.muts e1) = false := by
      have : clash ro.src (E.mutss [e1]) = false := by simpa using hc
      simpa only [E.mutss, List.append_nil] using this
    have hds : ds = [r1.d] := by
      simp only [AV.rvs, Option.map_some, Option.bind_some] at eds
      exact shs_map eds
    subst hds
    refine tE.next cf io R q1 fun Dz1 F1 H1 v G1 u1 R1 o1 g1 => ?_
    cases x with
    | str x =>
      obtain ⟨G1', p1⟩ := o1.rp
      have e0 := hr_sh ex
      rw [e0] at p1
      generalize ro.k = kk at p1
      cases p1
      refine ⟨⟨_, rfl⟩, tE.next cf io R1 qa fun Dz2 F2 H2 w G2 u2 R2 o2 g2 => ?_⟩
      obtain ⟨G2', p2⟩ := o2.rp
      cases hd : r1.d with
      | lst ys =>
        rw [hd] at e p2
        simp only [bmD] at e
        rw [Option.bind_eq_some_iff] at e
        obtain ⟨zs, ez, e⟩ := e
        split at e
        · rename_i hz
          cases e
          obtain ⟨a, vs, j, Fj, rfl, ha, hr⟩ := p2.lstAny
          obtain ⟨rfl, rfl, hb⟩ := rps_strs hr ez
          refine ⟨_, a, zs.map Str.ofString, rfl, rfl, .inl (.of ?_), ?_, ?_⟩
          · rw [List.map_map]
            exact ha
          · rw [List.map_map, ofString_length, List.length_map]
            have : zs.map ((fun x : Str => x.length) ∘ Str.ofString) = zs.map String.length := by
              refine List.map_congr_left fun z _ => ?_
              exact ofString_length z
            rw [this]
            exact hz.1
          · rw [TL.join_eq, join_of]
            exact c.val ((u1.trans u2).mono fun i hi => by simpa [E.muts, E.mutss] using hi) R2 (.str _ hz.2)
        · cases e
      | _ => rw [hd] at e; simp only [bmD] at e; cases e
    | _ => simp only [bmD] at e; cases e
  · cases q
theorem good_dct0 {pos : Pos} : Good cf io X (.dct [] []) (.Dict [] [] pos) := by
  refine .of (PE.imp pe_dnewK ?_) rfl
  rintro σ H Q ⟨B, Dz, F, s, R, r, s', q, c⟩
  rw [evE, evAs] at q
  simp only [Ev.bind] at q
  rw [evAs] at q
  cases q
  exact (c.fin (Tr.refl _) R).dct R.tk keyl_nil .nil
end Ti
end

section
/-! a def's promise, its calls -/
namespace Ti
open PySem PySem.Spec PyProof.Rows L2
variable [PWc]

variable {cf : Nat → List Arg → Rs} {io : List Nat} {X : Cx}
/-- the slots behind a call: what is changed in place -/
def outSl : List Arg → List D → List Slot
  | [], _ => []
  | .pv k d :: as, outs => .bo k d :: outSl as outs
  | .io k d :: as, o :: outs => .ow k o :: outSl as outs
  | .io k d :: as, [] => .ow k d :: outSl as []
/-- what a def promises: rs tells its end by its arguments -/
def spD (K : PySem.W.Frag) (np : Nat) (rs : List Arg → Rs) : Sp := fun vs H Q _ => vs.length = np ∧ ∃ (B Dz : Addr → Prop) (F : Nat → List Addr) (as : List Arg) (k : Nat) (d : D) (outs : List D),
  Rel K B Dz F (as.map Arg.slot) (vs.map some) H ∧ rs as = .ok k d outs ∧
  ∀ (Dz' : Addr → Prop) (F' : Nat → List Addr) (H' : Hp) (v : V) (G : List Addr), Tr (ioIdx as 0) Dz F H Dz' F' H' → Rel K B Dz' F' (outSl as outs) (vs.map some) H' →
    RvOk K B H' Dz' F' (.ow k d) v G → (∀ a ∈ G, H a = none ∨ ∃ i ∈ ioIdx as 0, a ∈ F i) → Q v H'
/-- a def that may be called with n written arguments -/
structure Can (cf : Nat → List Arg → Rs) (X : Cx) (g : Nat) (x : Str) (n : Nat) : Prop where
  ex : ∃ (k : Nat) (f : Addr) (fd : FuncData) (ps : List Str) (ds : List Value) (dvs : List V) (dfs : List D) (rs : List Arg → Rs) (np : Nat), FnOk X.prog X.w X.K X.mg X.base C8.CX0 k f fd ps (spD X.K np rs) ∧ Room k X.A ∧ X.mg x = some (.ref f) ∧ PySem.W.keepIn X.K (.ref f) = true ∧
    Binds X.K fd ps ds ∧ Vals dvs ds ∧ (∀ as : List Arg, as.length = n → cf g as = rs (as ++ dfs.map (Arg.pv 0))) ∧ n + dfs.length = np ∧ ∀ H Dz, Rps X.K H Dz 0 dfs dvs []

section
variable {K : PySem.W.Frag} {B Dz Dz' : Addr → Prop} {F F' : Nat → List Addr} {H H' : Hp} {s s' : Sl} {σ : L2.St}
theorem ioIdx_mem : ∀ {as : List Arg} {n i : Nat}, i ∈ ioIdx as n ↔ ∃ (j k : Nat) (d : D), i = n + j ∧ as[j]? = some (Arg.io k d)
  | [], n, i => by simp [ioIdx]
  | .pv k d :: as, n, i => by
    rw [ioIdx, ioIdx_mem]
    constructor
    · rintro ⟨j, k', d', e, h⟩
      exact ⟨j + 1, k', d', by omega, by simpa using h⟩
    · rintro ⟨j, k', d', e, h⟩
      cases j with
      | zero => simp at h
      | succ j => exact ⟨j, k', d', by omega, by simpa using h⟩
  | .io k d :: as, n, i => by
    rw [ioIdx, List.mem_cons, ioIdx_mem]
    constructor
    · rintro (rfl | ⟨j, k', d', e, h⟩)
      · exact ⟨0, k, d, by omega, by simp⟩
      · exact ⟨j + 1, k', d', by omega, by simpa using h⟩
    · rintro ⟨j, k', d', e, h⟩
      cases j with
      | zero => exact .inl (by omega)
      | succ j => exact .inr ⟨j, k', d', by omega, by simpa using h⟩
theorem ios_mem : ∀ {as : List AV} {j : Nat}, j ∈ AV.ios as ↔ ∃ i : Nat, as[i]? = some (AV.io j)
  | [], j => by simp [AV.ios]
  | .rv r :: as, j => by
    rw [AV.ios, ios_mem]
    constructor
    · rintro ⟨i, h⟩; exact ⟨i + 1, by simpa using h⟩
    · rintro ⟨i, h⟩
      cases i with
      | zero => simp at h
      | succ i => exact ⟨i, by simpa using h⟩
  | .io k :: as, j => by
    rw [AV.ios, List.mem_cons, ios_mem]
    constructor
    · rintro (rfl | ⟨i, h⟩)
      · exact ⟨0, rfl⟩
      · exact ⟨i + 1, by simpa using h⟩
    · rintro ⟨i, h⟩
      cases i with
      | zero => simp at h; exact .inl h.symm
      | succ i => exact .inr ⟨i, by simpa using h⟩
theorem ios_inj : ∀ {as : List AV} {i j n : Nat}, (AV.ios as).Nodup → as[i]? = some (AV.io n) → as[j]? = some (AV.io n) → i = j
  | [], i, j, n, _, h, _ => by simp at h
  | .rv r :: as, i, j, n, nd, h1, h2 => by
    cases i with
    | zero => simp at h1
    | succ i =>
      cases j with
      | zero => simp at h2
      | succ j => exact congrArg (· + 1) (ios_inj (as := as) (n := n) nd (by simpa using h1) (by simpa using h2))
  | .io k :: as, i, j, n, nd, h1, h2 => by
    rw [AV.ios, List.nodup_cons] at nd
    cases i with
    | zero =>
      cases j with
      | zero => rfl
      | succ j =>
        simp at h1; subst h1
        exact absurd (ios_mem.mpr ⟨j, by simpa using h2⟩) nd.1
    | succ i =>
      cases j with
      | zero =>
        simp at h2; subst h2
        exact absurd (ios_mem.mpr ⟨i, by simpa using h1⟩) nd.1
      | succ j => exact congrArg (· + 1) (ios_inj (as := as) (n := n) nd.2 (by simpa using h1) (by simpa using h2))
/-- where a slot is handed in -/
def pos : List AV → Nat → Nat
  | [], _ => 0
  | .rv _ :: as, j => pos as j + 1
  | .io k :: as, j => if k = j then 0 else pos as j + 1
theorem pos_at : ∀ {as : List AV} {j : Nat}, j ∈ AV.ios as → as[pos as j]? = some (AV.io j)
  | [], j, h => by simp [AV.ios] at h
  | .rv r :: as, j, h => by
    rw [AV.ios] at h
    rw [pos]
    simpa using pos_at h
  | .io k :: as, j, h => by
    rw [pos]
    by_cases e : k = j
    · rw [if_pos e, e]; rfl
    · rw [if_neg e]
      rw [AV.ios, List.mem_cons] at h
      simpa using pos_at (h.resolve_left fun z => e z.symm)
theorem args_len : ∀ {as : List AV} {vs : List Arg}, AV.args s as = some vs → vs.length = as.length
  | [], vs, e => by cases e; rfl
  | .rv r :: as, vs, e => by
    rw [AV.args, Option.map_eq_some_iff] at e
    obtain ⟨ws, e, rfl⟩ := e
    rw [List.length_cons, List.length_cons, args_len e]
  | .io i :: as, vs, e => by
    rw [AV.args] at e
    split at e
    · rw [Option.map_eq_some_iff] at e
      obtain ⟨ws, e, rfl⟩ := e
      rw [List.length_cons, List.length_cons, args_len e]
    · cases e
theorem args_rv : ∀ {as : List AV} {vs : List Arg} {i : Nat} {r : RV}, AV.args s as = some vs → as[i]? = some (AV.rv r) → vs[i]? = some (Arg.pv r.k r.d)
  | [], vs, i, r, e, h => by simp at h
  | .rv q :: as, vs, i, r, e, h => by
    rw [AV.args, Option.map_eq_some_iff] at e
    obtain ⟨ws, e, rfl⟩ := e
    cases i with
    | zero => simp at h; subst h; rfl
    | succ i => simpa using args_rv e (by simpa using h)
  | .io k :: as, vs, i, r, e, h => by
    rw [AV.args] at e
    split at e
    · rw [Option.map_eq_some_iff] at e
      obtain ⟨ws, e, rfl⟩ := e
      cases i with
      | zero => simp at h
      | succ i => simpa using args_rv e (by simpa using h)
    · cases e
theorem args_io : ∀ {as : List AV} {vs : List Arg} {i j : Nat}, AV.args s as = some vs → as[i]? = some (AV.io j) → ∃ k d, s[j]? = some (Slot.ow k d) ∧ vs[i]? = some (Arg.io k d)
  | [], vs, i, r, e, h => by simp at h
  | .rv q :: as, vs, i, r, e, h => by
    rw [AV.args, Option.map_eq_some_iff] at e
    obtain ⟨ws, e, rfl⟩ := e
    cases i with
    | zero => simp at h
    | succ i => simpa using args_io e (by simpa using h)
  | .io k :: as, vs, i, j, e, h => by
    rw [AV.args] at e
    split at e
    · rename_i k' d' hk
      rw [Option.map_eq_some_iff] at e
      obtain ⟨ws, e, rfl⟩ := e
      cases i with
      | zero => simp at h; subst h; exact ⟨_, _, hk, rfl⟩
      | succ i => simpa using args_io e (by simpa using h)
    · cases e
theorem outSl_len : ∀ (as : List Arg) (outs : List D), (outSl as outs).length = as.length
  | [], _ => rfl
  | .pv k d :: as, outs => by rw [outSl, List.length_cons, List.length_cons, outSl_len as]
  | .io k d :: as, [] => by rw [outSl, List.length_cons, List.length_cons, outSl_len as]
  | .io k d :: as, o :: outs => by rw [outSl, List.length_cons, List.length_cons, outSl_len as]
/-- what a call has made of the slots -/
theorem setOuts_spec : ∀ {as : List AV} {vs more : List Arg} {outs : List D} {s1 s s2 : Sl}, AV.args s1 as = some vs → (AV.ios as).Nodup → (∀ j ∈ AV.ios as, s[j]? = s1[j]?) → setOuts s (AV.ios as) outs = some s2 →
    s2.length = s.length ∧ (∀ j, j ∉ AV.ios as → s2[j]? = s[j]?) ∧ ∀ (i j : Nat), as[i]? = some (AV.io j) → ∃ k d, s2[j]? = some (Slot.ow k d) ∧ (outSl (vs ++ more) outs)[i]? = some (Slot.ow k d)
  | [], vs, more, outs, s1, s, s2, e, nd, hs, h => by
    cases e
    cases outs with
    | nil => simp only [AV.ios, setOuts] at h; cases h; exact ⟨rfl, fun _ _ => rfl, fun i j h => by simp at h⟩
    | cons o outs => simp only [AV.ios, setOuts] at h; cases h
  | .rv r :: as, vs, more, outs, s1, s, s2, e, nd, hs, h => by
    rw [AV.args, Option.map_eq_some_iff] at e
    obtain ⟨ws, e, rfl⟩ := e
    obtain ⟨h1, h2, h3⟩ := setOuts_spec (more := more) e nd hs h
    refine ⟨h1, h2, fun i j hi => ?_⟩
    cases i with
    | zero => simp at hi
    | succ i => simpa [outSl] using h3 i j (by simpa using hi)
  | .io n :: as, vs, more, outs, s1, s, s2, e, nd, hs, h => by
    rw [AV.args] at e
    split at e
    · rename_i k d hk
      rw [Option.map_eq_some_iff] at e
      obtain ⟨ws, e, rfl⟩ := e
      rw [AV.ios, List.nodup_cons] at nd
      have hn : s[n]? = some (.ow k d) := by rw [hs n (by simp [AV.ios]), hk]
      have hlt : n < s.length := (List.getElem?_eq_some_iff.mp hn).1
      cases outs with
      | nil => simp only [AV.ios, setOuts] at h; cases h
      | cons o outs =>
        simp only [AV.ios, setOuts, hn] at h
        obtain ⟨h1, h2, h3⟩ := setOuts_spec (more := more) e nd.2 (s := s.set n (.ow k o)) (fun j hj => by
          have hne : n ≠ j := fun z => nd.1 (z ▸ hj)
          rw [List.getElem?_set_ne hne]
          exact hs j (by simp [AV.ios, hj])) h
        refine ⟨by rw [h1, List.length_set], fun j hj => ?_, fun i j hi => ?_⟩
        · simp only [AV.ios, List.mem_cons, not_or] at hj
          rw [h2 j hj.2, List.getElem?_set_ne fun z => hj.1 z.symm]
        · cases i with
          | zero =>
            simp at hi; subst hi
            refine ⟨k, o, ?_, rfl⟩
            rw [h2 n nd.1, List.getElem?_set_self hlt]
          | succ i => simpa [outSl] using h3 i j (by simpa using hi)
    · cases e
theorem ioIdx_as {as : List AV} {vs more : List Arg} {i : Nat} (e : AV.args s as = some vs) (hm : ∀ a ∈ more, ∃ k d, a = .pv k d) : i ∈ ioIdx (vs ++ more) 0 ↔ ∃ j, as[i]? = some (AV.io j) := by
  rw [ioIdx_mem]
  have hl := args_len e
  constructor
  · rintro ⟨j, k, d, ej, h⟩
    obtain rfl : i = j := by omega
    by_cases hi : i < vs.length
    · rw [List.getElem?_append_left hi] at h
      have hia : i < as.length := by omega
      cases q : as[i] with
      | io n => exact ⟨n, by rw [List.getElem?_eq_getElem hia, q]⟩
      | rv r =>
        have := args_rv (r := r) e (by rw [List.getElem?_eq_getElem hia, q])
        rw [this] at h; cases h
    · rw [List.getElem?_append_right (by omega)] at h
      obtain ⟨k', d', z⟩ := hm _ (List.mem_of_getElem? h)
      cases z
  · rintro ⟨j, h⟩
    obtain ⟨k, d, _, h2⟩ := args_io e h
    refine ⟨i, k, d, by omega, ?_⟩
    have hi : i < vs.length := (List.getElem?_eq_some_iff.mp h2).1
    rw [List.getElem?_append_left hi]
    exact h2
/-- arguments, one by one -/
theorem AvsOk.at : ∀ {as : List AV} {vs : List V} {G : List Addr} {i : Nat} {a : AV}, AvsOk K B H Dz F σ as vs G → as[i]? = some a → ∃ v, vs[i]? = some v ∧ match a with
    | .io j => σ[j]? = some (some v)
    | .rv r => ∃ G1, RvOk K B H Dz F r v G1 ∧ ∀ x ∈ G1, x ∈ G
  | _, _, _, i, a, .nil, h => by simp at h
  | _, _, _, 0, a, .io e t, h => by simp at h; subst h; exact ⟨_, rfl, e⟩
  | _, _, _, i + 1, a, .io e t, h => by
    obtain ⟨v, h1, h2⟩ := AvsOk.at (i := i) t (by simpa using h)
    exact ⟨v, by simpa using h1, h2⟩
  | _, _, _, 0, a, .rv o t dj, h => by simp at h; subst h; exact ⟨_, rfl, _, o, fun x m => List.mem_append_left _ m⟩
  | _, _, _, i + 1, a, .rv o t dj, h => by
    obtain ⟨v, h1, h2⟩ := AvsOk.at (i := i) t (by simpa using h)
    refine ⟨v, by simpa using h1, ?_⟩
    cases a with
    | io j => exact h2
    | rv r => obtain ⟨G1, q1, q2⟩ := h2; exact ⟨G1, q1, fun x m => List.mem_append_right _ (q2 x m)⟩
theorem srcs_at : ∀ {as : List AV} {i : Nat} {r : RV}, as[i]? = some (AV.rv r) → ∀ j ∈ r.src, j ∈ AV.srcs as
  | [], i, r, h, j, hj => by simp at h
  | .io n :: as, i, r, h, j, hj => by
    cases i with
    | zero => simp at h
    | succ i => rw [AV.srcs]; exact srcs_at (by simpa using h) j hj
  | .rv q :: as, i, r, h, j, hj => by
    rw [AV.srcs]
    cases i with
    | zero => simp at h; subst h; exact List.mem_append_left _ hj
    | succ i => exact List.mem_append_right _ (srcs_at (by simpa using h) j hj)
end
theorem ios_muts : ∀ {es : List E} {s s1 : Sl} {as : List AV}, evAs cf io es s = .ok as s1 → ∀ i ∈ AV.ios as, i ∈ E.mutss es
  | [], s, s1, as, h, i, hi => by rw [evAs] at h; cases h; cases hi
  | e :: es, s, s1, as, h, i, hi => by
    by_cases hx : ∃ j, e = .io j
    · obtain ⟨j, rfl⟩ := hx
      rw [evAs] at h
      split at h
      · obtain ⟨as1, s2, h1, h⟩ := Ev.bind_ok h
        cases h
        rw [AV.ios, List.mem_cons] at hi
        rcases hi with rfl | hi
        · simp [E.mutss, E.muts]
        · simp [E.mutss, ios_muts h1 i hi]
      · cases h
    · obtain ⟨r, s2, as1, h1, _, h3, rfl⟩ := evAs_cons (fun j z => hx ⟨j, z⟩) h
      rw [AV.ios] at hi
      simp [E.mutss, ios_muts h3 i hi]

/-- the callee's places -/
def callF (as : List AV) (F : Nat → List Addr) : Nat → List Addr := fun i => match as[i]? with
  | some (.io j) => F j
  | _ => []
theorem callF_in {as : List AV} {F : Nat → List Addr} {i : Nat} {a : Addr} (m : a ∈ callF as F i) : ∃ j, as[i]? = some (AV.io j) ∧ a ∈ F j := by
  unfold callF at m
  split at m
  · rename_i j e
    exact ⟨j, e, m⟩
  · cases m
theorem callF_io {as : List AV} {F : Nat → List Addr} {i j : Nat} (e : as[i]? = some (AV.io j)) : callF as F i = F j := by unfold callF; rw [e]
/-- the callee runs, by arguments at hand -/
theorem call_core {n np : Nat} {rs : List Arg → Rs} {dfs : List D} {dvs : List V} {B Dz1 : Addr → Prop} {F1 : Nat → List Addr} {H1 : Hp} {σ : L2.St} {s1 s2 : Sl} {as : List AV} {vs : List Arg} {us : List V} {G : List Addr} {k : Nat} {d : D} {outs : List D} {Q : VK} {EE : XK}
    (hn : n + dfs.length = np) (hd : ∀ H Dz, Rps X.K H Dz 0 dfs dvs []) (la : as.length = n) (R1 : Rel X.K B Dz1 F1 s1 σ H1) (o1 : AvsOk X.K B H1 Dz1 F1 σ as us G) (ev : AV.args s1 as = some vs) (nd : (AV.ios as).Nodup) (hc : clash (AV.srcs as) (AV.ios as) = false)
    (er : rs (vs ++ dfs.map (Arg.pv 0)) = .ok k d outs) (eo : setOuts s1 (AV.ios as) outs = some s2) (c2 : Cont X.K B σ (AV.ios as) Dz1 F1 H1 s2 (.ow k d) Q) : spD X.K np rs (us ++ dvs) H1 Q EE := by
  have lv := args_len ev
  have lu := o1.len
  have ld : dfs.length = dvs.length := (hd H1 Dz1).len
  have oG := o1.out
  have hm : ∀ a ∈ dfs.map (Arg.pv 0), ∃ k d, a = Arg.pv k d := fun a m => by
    obtain ⟨d, _, rfl⟩ := List.mem_map.mp m
    exact ⟨_, _, rfl⟩
  have ixm : ∀ {i : Nat}, i ∈ ioIdx (vs ++ dfs.map (Arg.pv 0)) 0 ↔ ∃ j, as[i]? = some (AV.io j) := ioIdx_as ev hm
  obtain ⟨l2, s2n, s2i⟩ := setOuts_spec (more := dfs.map (Arg.pv 0)) ev nd (fun _ _ => rfl) eo
  refine ⟨by rw [List.length_append]; omega, fun a => B a ∨ a ∈ G ∨ ∃ j, j ∉ AV.ios as ∧ a ∈ F1 j, Dz1, callF as F1, vs ++ dfs.map (Arg.pv 0), k, d, outs, ?_, er, fun Dz' F' H' v Gr t Rc ro gr => ?_⟩
  · refine ⟨by simp [lv, lu, ld], fun i x e => ?_, fun i => ?_, fun i j a m1 m2 => ?_, fun i a m => ?_, fun i hi => ?_, fun i a m => ?_, R1.tk, fun i a m z => ?_, fun a z => ?_⟩
    · rw [List.getElem?_map, Option.map_eq_some_iff] at e
      obtain ⟨a, e, rfl⟩ := e
      by_cases hi : i < vs.length
      · rw [List.getElem?_append_left hi] at e
        have hia : i < as.length := by omega
        have hui : (List.map some (us ++ dvs))[i]? = (us[i]?).map some := by
          rw [List.getElem?_map, List.getElem?_append_left (by omega)]
        rw [hui]
        cases qa : as[i] with
        | io j =>
          have qa' : as[i]? = some (AV.io j) := by rw [List.getElem?_eq_getElem hia, qa]
          obtain ⟨k', d', h1, h2⟩ := args_io ev qa'
          rw [h2] at e; cases e
          obtain ⟨v, hv1, hv2⟩ := R1.sl j _ h1
          obtain ⟨w, hw1, hw2⟩ := o1.at qa'
          have hw2 : σ[j]? = some (some w) := hw2
          rw [hv1] at hw2; cases hw2
          exact ⟨v, by rw [hw1]; rfl, by rw [callF_io qa']; exact hv2⟩
        | rv r =>
          have qa' : as[i]? = some (AV.rv r) := by rw [List.getElem?_eq_getElem hia, qa]
          have h2 := args_rv ev qa'
          rw [h2] at e; cases e
          obtain ⟨w, hw1, hw2⟩ := o1.at qa'
          obtain ⟨G1, ho, hG⟩ := hw2
          refine ⟨by unfold callF; rw [qa'], w, ?_⟩
          rw [hw1]
          cases r with
          | ow k' d' => exact ⟨G1, rfl, ho.1, fun a m => .inr (.inl (hG a m))⟩
          | bo src k' d' =>
            obtain ⟨_, G', h3, h4⟩ := ho
            refine ⟨G', rfl, h3, fun a m => ?_⟩
            rcases h4 a m with z | ⟨j, hj, z⟩
            · exact .inl z
            · exact .inr (.inr ⟨j, clash_not hc (srcs_at qa' j hj), z⟩)
      · rw [List.getElem?_append_right (by omega), List.getElem?_map, Option.map_eq_some_iff] at e
        obtain ⟨dd, e, rfl⟩ := e
        obtain ⟨w, G', h1, h2, h3⟩ := (hd H1 Dz1).at e
        obtain rfl := List.sublist_nil.mp h3
        refine ⟨?_, w, [], ?_, h2, fun _ m => by cases m⟩
        · unfold callF; rw [List.getElem?_eq_none (by omega)]
        · rw [List.getElem?_map, List.getElem?_append_right (by omega), show i - us.length = i - vs.length by omega, h1]; rfl
    · unfold callF
      split
      · exact R1.nd _
      · exact .nil
    · obtain ⟨j1, e1, m1⟩ := callF_in m1
      obtain ⟨j2, e2, m2⟩ := callF_in m2
      obtain rfl := R1.dj j1 j2 a m1 m2
      exact ios_inj nd e1 e2
    · obtain ⟨j1, e1, m1⟩ := callF_in m
      exact R1.dz j1 a m1
    · unfold callF
      rw [List.getElem?_eq_none]
      rw [List.length_map, List.length_append, List.length_map] at hi
      omega
    · obtain ⟨j1, e1, m1⟩ := callF_in m
      exact R1.mt j1 a m1
    · obtain ⟨j1, e1, m1⟩ := callF_in m
      rcases z with z | z | ⟨j, hj, z⟩
      · exact R1.bz j1 a m1 z
      · exact (oG.2 a z).2.2.1 j1 m1
      · obtain rfl := R1.dj j1 j a m1 z
        exact hj (ios_mem.mpr ⟨i, e1⟩)
    · rcases z with z | z | ⟨j, hj, z⟩
      · exact R1.bt a z
      · exact tracked (oG.2 a z).2.2.2
      · exact tracked (R1.mt j a z)
  · -- behind the call
    have inC : ∀ {a : Addr} {i : Nat}, a ∈ callF as F1 i → ∃ j ∈ AV.ios as, a ∈ F1 j := fun m => by
      obtain ⟨j, e, m⟩ := callF_in m
      exact ⟨j, ios_mem.mpr ⟨_, e⟩, m⟩
    have keepN : ∀ a o, H1 a = some o → (∀ j ∈ AV.ios as, a ∉ F1 j) → H' a = some o := fun a o e hk => t.keep a o e fun i _ m => by
      obtain ⟨j, hj, m⟩ := inC m
      exact hk j hj m
    have keepF : ∀ {j : Nat}, j ∉ AV.ios as → ∀ a o, H1 a = some o → a ∈ F1 j → H' a = some o := fun {j} hj a o e m => keepN a o e fun j' hj' m' => hj (by rw [R1.dj j j' a m m']; exact hj')
    have keepB : ∀ a o, H1 a = some o → B a → H' a = some o := fun a o e m => keepN a o e fun j' _ m' => R1.bz j' a m' m
    have kz : ∀ a o, H1 a = some o → Dz1 a → H' a = some o := fun a o e m => keepN a o e fun j' _ m' => R1.dz j' a m' m
    have ps : ∀ {j : Nat}, j ∈ AV.ios as → as[pos as j]? = some (AV.io j) := pos_at
    have ndz : ∀ {j : Nat}, j ∉ AV.ios as → ∀ a ∈ F1 j, ¬ Dz' a := fun {j} hj a m z => by
      rcases t.new a z with z | z | ⟨i, _, z⟩
      · exact R1.dz j a m z
      · exact tracked (R1.mt j a m) z
      · obtain ⟨j', hj', m'⟩ := inC z
        exact hj (by rw [R1.dj j j' a m m']; exact hj')
    refine c2 Dz' (fun j => if j ∈ AV.ios as then F' (pos as j) else F1 j) H' v Gr ⟨t.dz, fun a z => ?_, keepN, t.nm, fun j hj => if_neg hj, fun j a hj m => ?_⟩ ⟨?_, fun j x e => ?_, fun j => ?_, fun i j a m1 m2 => ?_, fun j a m => ?_, fun j hj => ?_, fun j a m => ?_, Rc.tk, fun j a m => ?_, fun a z => ?_⟩ ⟨ro.1, ro.2.1, fun a m => ⟨(ro.2.2 a m).1, fun z => (ro.2.2 a m).2.1 (.inl z), fun j mj => ?_⟩⟩ fun a m => ?_
    · rcases t.new a z with z | z | ⟨i, _, z⟩
      · exact .inl z
      · exact .inr (.inl z)
      · exact .inr (.inr (inC z))
    · rw [if_pos hj] at m
      rcases t.fn (pos as j) a (ixm.mpr ⟨j, ps hj⟩) m with z | ⟨i, _, z⟩
      · exact .inl z
      · exact .inr (inC z)
    · rw [l2, R1.len]
    · by_cases hj : j ∈ AV.ios as
      · obtain ⟨k', d', h1, h2⟩ := s2i (pos as j) j (ps hj)
        rw [h1] at e; cases e
        obtain ⟨w, h3, h4⟩ := Rc.sl (pos as j) _ h2
        obtain ⟨w', h5, h6⟩ := o1.at (ps hj)
        have h6 : σ[j]? = some (some w') := h6
        have lt : pos as j < us.length := (List.getElem?_eq_some_iff.mp h5).1
        rw [List.getElem?_map, List.getElem?_append_left lt, h5] at h3
        cases h3
        exact ⟨_, h6, by simp only [if_pos hj]; exact h4⟩
      · rw [s2n j hj] at e
        have h := R1.sl j x e
        cases x with
        | no => show (if j ∈ AV.ios as then F' (pos as j) else F1 j) = []; rw [if_neg hj]; exact h
        | bo k' d' =>
          obtain ⟨h1, w, G', h2, h3, h4⟩ := h
          refine ⟨by simp only [if_neg hj]; exact h1, w, G', h2, h3.stay t.dz t.nm kz fun a o e m => keepB a o e (h4 a m), h4⟩
        | ow k' d' =>
          obtain ⟨w, h2, h3⟩ := h
          refine ⟨w, h2, ?_⟩
          simp only [if_neg hj]
          exact h3.stay t.dz t.nm kz fun a o e m => keepF hj a o e m
    · by_cases hj : j ∈ AV.ios as
      · simp only [if_pos hj]; exact Rc.nd _
      · simp only [if_neg hj]; exact R1.nd _
    · by_cases hi : i ∈ AV.ios as
      · simp only [if_pos hi] at m1
        by_cases hj : j ∈ AV.ios as
        · simp only [if_pos hj] at m2
          have := Rc.dj _ _ a m1 m2
          have p1 := ps hi
          rw [this, ps hj] at p1
          cases p1; rfl
        · simp only [if_neg hj] at m2
          exact absurd (.inr (.inr ⟨j, hj, m2⟩)) (Rc.bz _ a m1)
      · simp only [if_neg hi] at m1
        by_cases hj : j ∈ AV.ios as
        · simp only [if_pos hj] at m2
          exact absurd (.inr (.inr ⟨i, hi, m1⟩)) (Rc.bz _ a m2)
        · simp only [if_neg hj] at m2
          exact R1.dj i j a m1 m2
    · by_cases hj : j ∈ AV.ios as
      · simp only [if_pos hj] at m; exact Rc.dz _ a m
      · simp only [if_neg hj] at m; exact ndz hj a m
    · by_cases hj' : j ∈ AV.ios as
      · obtain ⟨k', d', h1, h2⟩ := s2i (pos as j) j (ps hj')
        have := (List.getElem?_eq_some_iff.mp h1).1
        omega
      · simp only [if_neg hj']; exact R1.out j (by omega)
    · by_cases hj : j ∈ AV.ios as
      · simp only [if_pos hj] at m; exact Rc.mt _ a m
      · simp only [if_neg hj] at m
        have h := R1.mt j a m
        cases q : H1 a with
        | none => rw [q] at h; cases h
        | some o => rw [q] at h; rw [keepF hj a o q m]; exact h
    · by_cases hj : j ∈ AV.ios as
      · simp only [if_pos hj] at m; exact fun z => Rc.bz _ a m (.inl z)
      · simp only [if_neg hj] at m; exact R1.bz j a m
    · cases q : H1 a with
      | none => exact absurd q (R1.bt a z)
      | some o => rw [keepB a o q z]; exact fun z => nomatch z
    · by_cases hj : j ∈ AV.ios as
      · simp only [if_pos hj] at mj; exact (ro.2.2 a m).2.2 _ mj
      · simp only [if_neg hj] at mj; exact (ro.2.2 a m).2.1 (.inr (.inr ⟨j, hj, mj⟩))
    · rcases gr a m with z | ⟨i, _, z⟩
      · exact .inl z
      · exact .inr (inC z)
theorem call_key {g n : Nat} {rs : List Arg → Rs} {dfs : List D} {dvs : List V} {es : List E} {np : Nat} (hrs : ∀ as : List Arg, as.length = n → cf g as = rs (as ++ dfs.map (Arg.pv 0))) (hn : n + dfs.length = np) (hd : ∀ H Dz, Rps X.K H Dz 0 dfs dvs []) (hl : es.length = n) :
    ∀ σ H Q, tE cf io X.K (.call g es) σ H Q → tCall (spD X.K np rs) dvs C8.E0 (tAs cf io X.K es) σ H Q := by
  rintro σ H Q ⟨B, Dz, F, s, R, r, s', q, c⟩
  rw [evE] at q
  obtain ⟨as, s1, e1, q⟩ := Ev.bind_ok q
  have la := evAs_len e1
  have im := ios_muts e1
  split at q
  case h_2 => cases q
  rename_i vs ev
  split at q
  case isFalse => cases q
  rename_i hh
  obtain ⟨nd, hc⟩ := hh
  split at q
  case h_2 => cases q
  rename_i k d outs er
  split at q
  case h_2 => cases q
  rename_i s2 eo
  have q' := q
  injection q' with q1 q2
  subst q1 q2
  have lv := args_len ev
  refine tAs.next cf io R e1 fun Dz1 F1 H1 us G t1 R1 o1 g1 => ?_
  have c2 : Cont X.K B σ (AV.ios as) Dz1 F1 H1 s2 (.ow k d) Q := (c.mono (M1 := E.mutss es ++ AV.ios as) fun i hi => (List.mem_append.mp hi).elim id (im i)).later t1
  exact call_core hn hd (by omega) R1 o1 ev nd hc (by rw [← hrs vs (by omega)]; exact er) eo c2
theorem good_call {g : Nat} {x : Str} {e : Expr} {pes : List Expr} {es : List E} {p pos : Pos} (hcan : Can cf X g x es.length) (hg : Gl X x) (hdb : (x == ("__debug__" : Str)) = false) (h : Goods cf io X es (e :: pes)) :
    Good cf io X (.call g es) (.Call (.Name x p) (e :: pes) [] pos) := by
  obtain ⟨k, f, fd, ps, ds, dvs, dfs, rs, np, hF, hr, hmg, hk, hb, hd, hrs, hn, hdd⟩ := hcan.ex
  have hs := h.star
  rw [List.all_cons, Bool.and_eq_true] at hs
  exact .of (PE.imp (pe_call hF hr hg hmg hk hb hd (E := C8.E0) C8.pass0 h.val hdb (star_cons hs.1 _ _) (star_any hs.2)) (call_key hrs hn hdd rfl)) rfl
theorem good_call0 {g : Nat} {x : Str} {p pos : Pos} (hcan : Can cf X g x 0) (hg : Gl X x) (hdb : (x == ("__debug__" : Str)) = false) :
    Good cf io X (.call g []) (.Call (.Name x p) [] [] pos) := by
  obtain ⟨k, f, fd, ps, ds, dvs, dfs, rs, np, hF, hr, hmg, hk, hb, hd, hrs, hn, hdd⟩ := hcan.ex
  refine .of (PE.imp (pe_call0 hF hr hg hmg hk hb hd (E := C8.E0) C8.pass0 hdb) fun σ H Q h => ?_) rfl
  obtain ⟨B, Dz, F, s, R, as, s1, e1, c⟩ := call_key (es := []) hrs hn hdd rfl σ H Q h
  rw [evAs] at e1
  cases e1
  exact c Dz F H [] [] (Tr.refl _) R .nil fun _ m => by cases m
end Ti
end

section
/-! what is walked; targets -/
namespace Ti
open PySem PySem.Spec PyProof.Rows L2
variable [PWc]

variable {cf : Nat → List Arg → Rs} {io : List Nat} {X : Cx}
def iAny (K : PySem.W.Frag) (tl : TE) : TI := fun σ H R => tl σ H fun x H1 => (∃ a, x = .ref a ∧ (∃ xs, SqL K H1 a xs) ∧ R (Itl K a) H1) ∨ (∃ a, x = .ref a ∧ (∃ xs, SqT K H1 a xs) ∧ R (Itt K a) H1) ∨ ∃ y, x = .str y ∧ R (Its y) H1
theorem pi_any {tg l : Expr} {tl : TE} (hl : PE X l tl) : PI X tg l (iAny X.K tl) := by
  refine ⟨fun pins s σ H R I h => ?_⟩
  refine thn (hl.run pins s σ H _ I h) fun v s1 ⟨x, H1, I1, r1, q1⟩ => ?_
  rcases q1 with ⟨a, rfl, ⟨xs, hq⟩, q⟩ | ⟨a, rfl, ⟨xs, hq⟩, q⟩ | ⟨y, rfl, q⟩
  · cases r1
    obtain ⟨its, rv, p, hz⟩ := I1.list hq
    exact wpAny_pyIter_list p.isList (pi_one (tk := s1.toks) I1 _ (turn_list a _) ⟨_, Heap.get?_push_size _ rfl, rfl, rfl⟩ q)
  · cases r1
    obtain ⟨its, rv, p, hz⟩ := I1.tuple hq
    exact wpAny_pyIter_tuple (show s1.heap.IsTuple a its.toArray from p) (pi_one (tk := s1.toks) I1 _ (turn_tuple a _) ⟨_, Heap.get?_push_size _ rfl, rfl, rfl⟩ q)
  · obtain ⟨t, rfl⟩ := r1
    cases ha : y.cps.all (· < 128)
    · exact wpAny_pyIter_wide ha (pi_one (tk := s1.toks) I1 _ (turn_str _ y t "str_iterator" (.inr rfl)) ⟨_, Heap.get?_push_size _ rfl, rfl, rfl⟩ q)
    · exact wpAny_pyIter_ascii ha (pi_one (tk := s1.toks) I1 _ (turn_str _ y t "str_ascii_iterator" (.inl rfl)) ⟨_, Heap.get?_push_size _ rfl, rfl, rfl⟩ q)
/-- the items that come, at any time -/
def Jx (K : PySem.W.Frag) (J : It) (ds : List D) (H : Hp) (Dz : Addr → Prop) : Prop :=
  ∀ i, (i < ds.length → J.go i H ∧ ∀ x H', J.yld i H x H' → H' = H ∧ ∃ y, ds[i]? = some y ∧ Rp K H Dz 0 y x []) ∧ (ds.length ≤ i → J.stop i H)
/-- a walk: what is walked stays while the slots ms change -/
def tI (cf : Nat → List Arg → Rs) (io : List Nat) (K : PySem.W.Frag) (e : E) (ms : List Nat) : TI := fun σ H R => ∃ (B Dz : Addr → Prop) (F : Nat → List Addr) (s : Sl), Rel K B Dz F s σ H ∧ ∃ r s' ds, evE cf io e s = .ok r s' ∧ r.walk ms (itemsOf r.d) = some ds ∧
  ∀ (Dz' : Addr → Prop) (F' : Nat → List Addr) (H' : Hp) (J : It), Tr (E.muts e) Dz F H Dz' F' H' → Rel K B Dz' F' s' σ H' →
    (∀ (Dz2 : Addr → Prop) (F2 : Nat → List Addr) (H2 : Hp), Tr ms Dz' F' H' Dz2 F2 H2 → Jx K J ds H2 Dz2) → R J H'
section
variable {K : PySem.W.Frag} {B Dz Dz' : Addr → Prop} {F F' : Nat → List Addr} {H H' : Hp} {s s' : Sl} {σ : L2.St}
theorem jx_list {a : Addr} {ds : List D} {vs : List V} (h : H a = some (.lst vs)) (r : Rps K H Dz 0 ds vs []) : Jx K (Itl K a) ds H Dz := fun i => by
  have sq : SqL K H a vs := .of h
  refine ⟨fun hi => ?_, fun hi => ⟨vs, sq, by rw [← r.len]; exact hi⟩⟩
  obtain ⟨v, G, h1, h2, h3⟩ := r.at (List.getElem?_eq_getElem hi)
  obtain rfl := List.sublist_nil.mp h3
  exact ⟨⟨vs, v, sq, h1⟩, fun x H' ⟨e, hx⟩ => ⟨e, _, List.getElem?_eq_getElem hi, by have := hx vs sq; rw [h1] at this; cases this; exact h2⟩⟩
theorem jx_tup {a : Addr} {ds : List D} {vs : List V} (sq : SqT K H a vs) (r : Rps K H Dz 0 ds vs []) : Jx K (Itt K a) ds H Dz := fun i => by
  refine ⟨fun hi => ?_, fun hi => ⟨vs, sq, by rw [← r.len]; exact hi⟩⟩
  obtain ⟨v, G, h1, h2, h3⟩ := r.at (List.getElem?_eq_getElem hi)
  obtain rfl := List.sublist_nil.mp h3
  exact ⟨⟨vs, v, sq, h1⟩, fun x H' ⟨e, hx⟩ => ⟨e, _, List.getElem?_eq_getElem hi, by have := hx vs sq; rw [h1] at this; cases this; exact h2⟩⟩
theorem jx_str {x : String} (hx : x.length ≤ big) : Jx K (Its (Str.ofString x)) (x.toList.map fun c => .str (String.singleton c)) H Dz := fun i => by
  have e : (Str.ofString x).cps.toList = x.toList.map Char.toNat := by rw [Str.ofString_eq_toList]
  have es : (Str.ofString x).cps.size = x.toList.length := by rw [← Array.length_toList, e, List.length_map]
  refine ⟨fun hi => ?_, fun hi => ?_⟩
  · rw [List.length_map] at hi
    refine ⟨by show i < (Str.ofString x).cps.size; omega, fun v H' ⟨eH, c, hc, ev⟩ => ⟨eH, .str (String.singleton x.toList[i]), by rw [List.getElem?_map, List.getElem?_eq_getElem hi]; rfl, ?_⟩⟩
    subst ev
    have hc' : (x.toList.map Char.toNat)[i]? = some c := by rw [← e, Array.getElem?_toList]; exact hc
    rw [List.getElem?_map, List.getElem?_eq_getElem hi] at hc'
    cases hc'
    have : V.str ⟨#[x.toList[i].toNat]⟩ = V.str (Str.ofString (String.singleton x.toList[i])) := by
      rw [Str.ofString_eq_toList]
      simp [String.toList_singleton]
    rw [this]
    exact .str _ (by simp [big])
  · rw [List.length_map] at hi
    show (Str.ofString x).cps.size ≤ i
    omega
theorem walk_ok {r : RV} {v : V} {G : List Addr} {ms M : List Nat} {ds : List D} {Dz0 : Addr → Prop} {F0 : Nat → List Addr} {H0 : Hp} (t : Tr M Dz0 F0 H0 Dz F H) (R : Rel K B Dz F s σ H) (o : RvOk K B H Dz F r v G) (g : ∀ x ∈ G, H0 x = none ∨ ∃ i ∈ M, x ∈ F0 i) (hw : r.walk ms (itemsOf r.d) = some ds) :
    ∃ (Dz2 : Addr → Prop) (r2 : RV), Tr M Dz0 F0 H0 Dz2 F H ∧ Rel K B Dz2 F s σ H ∧ r2.k ≤ 1 ∧ r2.d = r.d ∧ clash r2.src ms = false ∧ RvOk K B H Dz2 F r2 v [] ∧ itemsOf r.d = some ds := by
  unfold RV.walk at hw
  split at hw
  · cases hw
  rename_i hc
  cases r with
  | ow k d =>
    obtain ⟨o1, o2, o3⟩ := id o
    obtain ⟨G', N, h1, h2, h3, h4⟩ := o1.cut o2 0 (Nat.zero_le _)
    obtain rfl := h1.nil0
    refine ⟨Or Dz N, .ow 0 d, t.give fun a m => g a (h3.subset m), R.give fun a m => ⟨(o.out.2 a (h3.subset m)).2.2.1, tracked (o.out.2 a (h3.subset m)).2.2.2⟩, Nat.zero_le _, rfl, ?_, ⟨h1, .nil, fun _ m => by cases m⟩, hw⟩
    simp [RV.src, clash]
  | bo src k d =>
    simp only at hw
    split at hw
    · rename_i hk
      obtain ⟨rfl, o2⟩ := id o
      exact ⟨Dz, .bo src k d, t, R, hk, rfl, by simpa using hc, o, hw⟩
    · cases hw
end
theorem good_it {tg pe : Expr} {e : E} {ms : List Nat} (h : Good cf io X e pe) : PI X tg pe (tI cf io X.K e ms) := by
  have base := pi_any (tg := tg) h.val
  refine ⟨fun pins s0 σ H R0 I hh => base.run pins s0 σ H R0 I ?_⟩
  obtain ⟨B, Dz, F, s, R, r, s', ds, e1, hw, c⟩ := hh
  refine tE.next cf io R e1 fun Dz1 F1 H1 v G1 t1 R1 o1 g1 => ?_
  obtain ⟨Dz2, r2, t2, R2, hk, hd, hc, o2, hi⟩ := walk_ok t1 R1 o1 g1 hw
  obtain ⟨Gp, p⟩ := o2.rp
  rw [hd] at p
  cases hrd : r.d with
  | lst xs =>
    rw [hrd] at p hi
    cases hi
    obtain ⟨a, vs, rfl, ha, hr⟩ := p.lst1 hk
    refine .inl ⟨a, rfl, ⟨vs, .of ha⟩, c Dz2 F1 H1 _ t2 R2 fun Dz3 F3 H3 t3 => ?_⟩
    obtain ⟨Gp', p'⟩ := (o2.tr R2 t3 hc).rp
    rw [hd, hrd] at p'
    obtain ⟨a', vs', e', ha', hr'⟩ := p'.lst1 hk
    cases e'
    exact jx_list ha' hr'
  | tup xs =>
    rw [hrd] at p hi
    cases hi
    obtain ⟨a, vs, rfl, ha, hr⟩ := p.tup1 hk
    refine .inr (.inl ⟨a, rfl, ⟨vs, ha.sq⟩, c Dz2 F1 H1 _ t2 R2 fun Dz3 F3 H3 t3 => ?_⟩)
    obtain ⟨Gp', p'⟩ := (o2.tr R2 t3 hc).rp
    rw [hd, hrd] at p'
    obtain ⟨a', vs', e', ha', hr'⟩ := p'.tup1 hk
    cases e'
    exact jx_tup ha'.sq hr'
  | str x =>
    rw [hrd] at p hi
    cases hi
    generalize r2.k = kk at p
    cases p with
    | str _ hx => exact .inr (.inr ⟨_, rfl, c Dz2 F1 H1 _ t2 R2 fun Dz3 F3 H3 t3 => jx_str hx⟩)
  | _ => rw [hrd] at hi; cases hi
theorem jx_rng {K : PySem.W.Frag} {H : Hp} {Dz : Addr → Prop} (lo : Int) (n : Nat) : Jx K (Itr lo n) ((List.range n).map fun (k : Nat) => .int (lo + k)) H Dz := fun i => by
  rw [List.length_map, List.length_range]
  refine ⟨fun hi => ⟨hi, fun x H' ⟨e, ex⟩ => ⟨e, .int (lo + i), by rw [List.getElem?_map, List.getElem?_range hi]; rfl, by rw [ex]; exact .int _⟩⟩, fun hi => hi⟩
theorem rng_ds {K : PySem.W.Frag} {B Dz : Addr → Prop} {F : Nat → List Addr} {H : Hp} {σ : L2.St} {as : List AV} {vs : List V} {G : List Addr} {ds : List D} (o : AvsOk K B H Dz F σ as vs G) (e : (AV.rvs as).bind shs = some ds) :
    (∀ i, ds = [.int i] → vs = [.int i]) ∧ ∀ i j, ds = [.int i, .int j] → vs = [.int i, .int j] := by
  rw [Option.bind_eq_some_iff] at e
  obtain ⟨rs, e1, e2⟩ := e
  obtain ⟨hl, h⟩ := o.shs e1 e2
  constructor
  · rintro i rfl
    obtain ⟨v, rfl⟩ : ∃ v, vs = [v] := by
      match vs, hl with
      | [v], _ => exact ⟨v, rfl⟩
    obtain ⟨k, G', _, p⟩ := h 0 _ _ rfl rfl
    cases p; rfl
  · rintro i j rfl
    obtain ⟨v, w, rfl⟩ : ∃ v w, vs = [v, w] := by
      match vs, hl with
      | [v, w], _ => exact ⟨v, w, rfl⟩
    obtain ⟨k, G', _, p⟩ := h 0 _ _ rfl rfl
    obtain ⟨k', G'', _, p'⟩ := h 1 _ _ rfl rfl
    cases p; cases p'; rfl
theorem good_rng1 {tg a : Expr} {ea : E} {p pos : Pos} {ms : List Nat} (hg : Gl X ("range" : Str)) (hm : X.mg ("range" : Str) = none) (h : Goods cf io X [ea] [a]) : PI X tg (.Call (.Name "range" p) [a] [] pos) (tI cf io X.K (.rng [ea]) ms) := by
  have hs := h.star
  rw [List.all_cons, Bool.and_eq_true] at hs
  have base := pi_range1 (tg := tg) (p := p) (pos := pos) hg hm h.val (star_cons hs.1 _ _)
  refine ⟨fun pins s0 σ H R0 I hh => base.run pins s0 σ H R0 I ?_⟩
  obtain ⟨B, Dz, F, s, R, r, s', ds, e1, hw, c⟩ := hh
  rw [evE] at e1
  obtain ⟨as, s1, e2, e1⟩ := Ev.bind_ok e1
  have la := evAs_len e2
  refine tAs.next cf io R e2 fun Dz1 F1 H1 vs G t1 R1 o1 g1 => ?_
  split at e1
  · rename_i dd ed
    split at e1
    · rename_i xs ex
      injection e1 with q1 q2
      subst q1 q2
      have hds : ds = xs := by simp [RV.walk, RV.src, clash, RV.d, itemsOf] at hw; exact hw.symm
      subst hds
      obtain ⟨z1, z2⟩ := rng_ds o1 ed
      have hl : dd.length = 1 := by
        rw [Option.bind_eq_some_iff] at ed
        obtain ⟨rs, f1, f2⟩ := ed
        rw [(o1.shs f1 f2).1, ← o1.len, la]; rfl
      match dd, hl with
      | [d], _ =>
        cases d with
        | int j =>
          simp only [rngD] at ex
          split at ex
          · rename_i hj
            cases ex
            obtain rfl := z1 j rfl
            refine ⟨j, rfl, by omega, by unfold big at hj; omega, c Dz1 F1 H1 _ t1 R1 fun Dz2 F2 H2 t2 => ?_⟩
            have := jx_rng (K := X.K) (H := H2) (Dz := Dz2) 0 j.toNat
            simpa using this
          · cases ex
        | _ => simp only [rngD] at ex; cases ex
    · cases e1
  · cases e1
theorem good_rng2 {tg a b : Expr} {ea eb : E} {p pos : Pos} {ms : List Nat} (hg : Gl X ("range" : Str)) (hm : X.mg ("range" : Str) = none) (h : Goods cf io X [ea, eb] [a, b]) : PI X tg (.Call (.Name "range" p) [a, b] [] pos) (tI cf io X.K (.rng [ea, eb]) ms) := by
  have hs := h.star
  simp only [List.all_cons, Bool.and_eq_true] at hs
  have base := pi_range2 (tg := tg) (p := p) (pos := pos) hg hm h.val (by rw [star_cons hs.1, star_cons hs.2.1]; rfl) (star_cons hs.2.1 _ _)
  refine ⟨fun pins s0 σ H R0 I hh => base.run pins s0 σ H R0 I ?_⟩
  obtain ⟨B, Dz, F, s, R, r, s', ds, e1, hw, c⟩ := hh
  rw [evE] at e1
  obtain ⟨as, s1, e2, e1⟩ := Ev.bind_ok e1
  have la := evAs_len e2
  refine tAs.next cf io R e2 fun Dz1 F1 H1 vs G t1 R1 o1 g1 => ?_
  split at e1
  · rename_i dd ed
    split at e1
    · rename_i xs ex
      injection e1 with q1 q2
      subst q1 q2
      have hds : ds = xs := by simp [RV.walk, RV.src, clash, RV.d, itemsOf] at hw; exact hw.symm
      subst hds
      obtain ⟨z1, z2⟩ := rng_ds o1 ed
      have hl : dd.length = 2 := by
        rw [Option.bind_eq_some_iff] at ed
        obtain ⟨rs, f1, f2⟩ := ed
        rw [(o1.shs f1 f2).1, ← o1.len, la]; rfl
      match dd, hl with
      | [d, d'], _ =>
        cases d with
        | int i =>
          cases d' with
          | int j =>
            simp only [rngD] at ex
            split at ex
            · rename_i hj
              cases ex
              obtain rfl := z2 i j rfl
              refine ⟨i, j, rfl, by unfold big at hj; omega, c Dz1 F1 H1 _ t1 R1 fun Dz2 F2 H2 t2 => jx_rng i (j - i).toNat⟩
            · cases ex
          | _ => simp only [rngD] at ex; cases ex
        | _ => simp only [rngD] at ex; cases ex
    · cases e1
  · cases e1
end Ti
end

section
/-! targets -/
namespace Ti
open PySem PySem.Spec PyProof.Rows L2
variable [PWc]

/-- the slots besides M are as they were -/
def SigE (M : List Nat) (σ σ' : L2.St) : Prop := σ'.length = σ.length ∧ ∀ j, j ∉ M → σ'[j]? = σ[j]?
theorem SigE.refl (M : List Nat) (σ : L2.St) : SigE M σ σ := ⟨rfl, fun _ _ => rfl⟩
theorem SigE.mono {M N : List Nat} {σ σ' : L2.St} (h : SigE M σ σ') (i : ∀ j ∈ M, j ∈ N) : SigE N σ σ' := ⟨h.1, fun j hj => h.2 j fun z => hj (i j z)⟩
theorem SigE.trans {M N : List Nat} {σ σ1 σ2 : L2.St} (h : SigE M σ σ1) (k : SigE N σ1 σ2) : SigE (M ++ N) σ σ2 :=
  ⟨k.1.trans h.1, fun j hj => (k.2 j fun z => hj (List.mem_append_right _ z)).trans (h.2 j fun z => hj (List.mem_append_left _ z))⟩
def gT (K : PySem.W.Frag) (t : Tg) : TG := fun v σ H Q => ∃ (B Dz : Addr → Prop) (F : Nat → List Addr) (s : Sl) (d : D) (s' : Sl), Rel K B Dz F s σ H ∧ Rp K H Dz 0 d v [] ∧ Tg.put t d s = some s' ∧
  ∀ (σ' : L2.St) (F' : Nat → List Addr), Tr t.slots Dz F H Dz F' H → Rel K B Dz F' s' σ' H → SigE t.slots σ σ' → Q σ' H
def gTs (K : PySem.W.Frag) (ts : List Tg) : TGs := fun vs σ H Q => ∃ (B Dz : Addr → Prop) (F : Nat → List Addr) (s : Sl) (ds : List D) (s' : Sl), Rel K B Dz F s σ H ∧ Rps K H Dz 0 ds vs [] ∧ Tg.puts ts ds s = some s' ∧
  ∀ (σ' : L2.St) (F' : Nat → List Addr), Tr (Tg.slotss ts) Dz F H Dz F' H → Rel K B Dz F' s' σ' H → SigE (Tg.slotss ts) σ σ' → Q σ' H
theorem PG.imp {X : Cx} {e : Expr} {t u : TG} (h : PG X e u) (i : ∀ v σ H Q, t v σ H Q → u v σ H Q) : PG X e t := ⟨fun pins s σ H v u' Q I r q => h.run pins s σ H v u' Q I r (i v σ H Q q)⟩
theorem PGs.imp {X : Cx} {e : List Expr} {t u : TGs} (h : PGs X e u) (i : ∀ v σ H Q, t v σ H Q → u v σ H Q) : PGs X e t := ⟨fun pins s σ H v u' Q I r q => h.run pins s σ H v u' Q I r (i v σ H Q q)⟩
theorem Rps.inv0 {K : PySem.W.Frag} {H : Hp} {Dz : Addr → Prop} {ds : List D} {vs : List V} (h : Rps K H Dz 0 ds vs []) : (ds = [] ∧ vs = []) ∨ ∃ d ds' v vs', ds = d :: ds' ∧ vs = v :: vs' ∧ Rp K H Dz 0 d v [] ∧ Rps K H Dz 0 ds' vs' [] := by
  generalize hF : ([] : List Addr) = G at h
  cases h with
  | nil => exact .inl ⟨rfl, rfl⟩
  | cons p r =>
    obtain rfl := p.nil0
    obtain rfl := r.nil0
    exact .inr ⟨_, _, _, _, rfl, rfl, p, r⟩
variable {X : Cx}
theorem ass_cons {e : Expr} (h : notStar e = true) (es : List Expr) (env : Env) : assignEach (e :: es) env = (false, assign e env) :: assignEach es env := by
  cases e <;> first | rfl | (exfalso; revert h; simp [notStar]; done)
structure GoodTs (X : Cx) (ts : List Tg) (pts : List Expr) : Prop where
  run : PGs X pts (gTs X.K ts)
  len : (assignEach pts X.env).length = ts.length
  star : (assignEach pts X.env).findIdx? (·.1) = none
theorem good_nm {i : Nat} {x : Str} {pos : Pos} (hN : X.N.Nodup) (hi : X.N[i]? = some x) (hx : Loc X.env.scope x) (hf : X.fn x = true ∨ X.env.scope.names.lookup x = some .local) : PG X (.Name x pos) (gT X.K (.nm i)) := by
  refine PG.imp (pg_name hN hi hx hf) ?_
  rintro v σ H Q ⟨B, Dz, F, s, d, s', R, p, hp, c⟩
  simp only [Tg.put] at hp
  split at hp
  · rename_i hl
    cases hp
    refine c _ (fset F i []) ⟨fun _ z => z, fun _ z => .inl z, fun _ _ e _ => e, fun _ _ e _ => e, fun j hj => fset_ne fun z => hj (by simp [Tg.slots, z]), fun j a hj m => ?_⟩ (R.put hl (by simp) (fun j hj => List.getElem?_set_ne (Ne.symm hj)) ⟨fset_same, v, [], ?_, p, fun _ m => by cases m⟩ .nil fun _ m => by cases m) ⟨by simp, fun j hj => List.getElem?_set_ne fun z => hj (by simp [Tg.slots, z])⟩
    · obtain rfl : j = i := by simpa [Tg.slots] using hj
      rw [fset_same] at m; cases m
    · rw [List.getElem?_set_self (by rw [← R.len]; exact hl)]
  · cases hp
theorem good_tgs_nil : GoodTs X [] [] := by
  refine ⟨PGs.imp pgs_nil ?_, rfl, rfl⟩
  rintro v σ H Q ⟨B, Dz, F, s, d, s', R, p, hp, c⟩
  rcases p.inv0 with ⟨rfl, rfl⟩ | ⟨d, ds, v, vs, rfl, rfl, h, r⟩
  · simp only [Tg.puts] at hp
    cases hp
    exact ⟨rfl, c σ F (Tr.refl _) R (SigE.refl _ _)⟩
  · simp only [Tg.puts] at hp; cases hp
theorem good_tgs_cons {t : Tg} {ts : List Tg} {pt : Expr} {pts : List Expr} (h : PG X pt (gT X.K t)) (hs : notStar pt = true) (hr : GoodTs X ts pts) : GoodTs X (t :: ts) (pt :: pts) := by
  refine ⟨PGs.imp (pgs_cons h hr.run (by rw [ass_cons hs]; rfl)) ?_, by rw [ass_cons hs, List.length_cons, hr.len, List.length_cons], by rw [ass_cons hs]; simp [List.findIdx?_cons, hr.star]⟩
  rintro v σ H Q ⟨B, Dz, F, s, d, s', R, p, hp, c⟩
  rcases p.inv0 with ⟨rfl, rfl⟩ | ⟨d, ds, v, vs, rfl, rfl, h, r⟩
  · simp only [Tg.puts] at hp; cases hp
  · simp only [Tg.puts] at hp
    rw [Option.bind_eq_some_iff] at hp
    obtain ⟨s1, h1, h2⟩ := hp
    refine ⟨v, vs, rfl, B, Dz, F, s, d, s1, R, h, h1, fun σ1 Fa t1 R1 e1 => ?_⟩
    refine ⟨B, Dz, Fa, s1, ds, s', R1, r, h2, fun σ2 Fb t2 R2 e2 => ?_⟩
    exact c σ2 Fb (t1.trans t2) R2 (e1.trans e2)
/-- a tuple or a list of n -/
def gSq (K : PySem.W.Frag) (n : Nat) (t : TGs) : TG := fun v σ H Q => gTup K n t v σ H Q ∨ gLst K n t v σ H Q
theorem pg_sq {es : List Expr} {k : Nat} {pos : Pos} {t : TGs} {n : Nat} (hc : X.calm = true) (h : PGs X es t) (hn : (assignEach es X.env).length = n) (hst : (assignEach es X.env).findIdx? (·.1) = none) : PG X (.Tuple es k pos) (gSq X.K n t) :=
  ⟨fun pins s σ H v u Q I r hw => hw.elim (fun z => (pg_tup hc h hn hst).run pins s σ H v u Q I r z) fun z => (pg_lst hc h hn hst).run pins s σ H v u Q I r z⟩
theorem good_tp {ts : List Tg} {pts : List Expr} {k : Nat} {pos : Pos} (hc : X.calm = true) (h : GoodTs X ts pts) : PG X (.Tuple pts k pos) (gT X.K (.tp ts)) := by
  have LEN : ∀ {ts : List Tg} {ds : List D} {s s' : Sl}, Tg.puts ts ds s = some s' → ds.length = ts.length := by
      intro ts
      induction ts with
      | nil => intro ds s s' h; cases ds with
        | nil => rfl
        | cons _ _ => simp only [Tg.puts] at h; cases h
      | cons t ts ih => intro ds s s' h; cases ds with
        | nil => simp only [Tg.puts] at h; cases h
        | cons d ds =>
          simp only [Tg.puts] at h
          rw [Option.bind_eq_some_iff] at h
          obtain ⟨_, _, h⟩ := h
          rw [List.length_cons, List.length_cons, ih h]
  have both : PG X (.Tuple pts k pos) (gSq X.K ts.length (gTs X.K ts)) := pg_sq hc h.run h.len h.star
  refine PG.imp both ?_
  rintro v σ H Q ⟨B, Dz, F, s, d, s', R, p, hp, c⟩
  cases d with
  | tup ds =>
    simp only [Tg.put] at hp
    obtain ⟨a, vs, rfl, hq, hr⟩ := p.tup1 (Nat.zero_le _)
    refine .inl ⟨a, vs, rfl, hq.sq, ?_, B, Dz, F, s, ds, s', R, hr, hp, c⟩
    rw [← hr.len]
    exact LEN hp
  | lst ds =>
    simp only [Tg.put] at hp
    obtain ⟨a, vs, rfl, hq, hr⟩ := p.lst1 (Nat.zero_le _)
    refine .inr ⟨a, vs, rfl, .of hq, ?_, B, Dz, F, s, ds, s', R, hr, hp, c⟩
    rw [← hr.len]
    exact LEN hp
  | _ => simp only [Tg.put] at hp; cases hp
end Ti
end

section
/-! comprehensions -/
namespace Ti
open PySem PySem.Spec PyProof.Rows L2
variable [PWc]

section
variable {K : PySem.W.Frag} {B Dz Dz' Dz1 Dz2 : Addr → Prop} {F F' F1 F2 : Nat → List Addr} {H H' H1 H2 : Hp} {M M1 M2 : List Nat} {s s' s1 s2 : Sl} {σ : L2.St}
theorem wipeS_len (s : Sl) : ∀ is : List Nat, (wipeS is s).length = s.length
  | [] => rfl
  | i :: is => by rw [wipeS, List.length_set, wipeS_len s is]
theorem wipeS_get (s : Sl) (j : Nat) : ∀ is : List Nat, (wipeS is s)[j]? = if j ∈ is ∧ j < s.length then some .no else s[j]?
  | [] => by simp [wipeS]
  | i :: is => by
    rw [wipeS]
    by_cases h : i = j
    · subst h
      by_cases hl : i < s.length
      · rw [List.getElem?_set_self (by rw [wipeS_len]; exact hl), if_pos ⟨by simp, hl⟩]
      · rw [List.getElem?_eq_none (by rw [List.length_set, wipeS_len]; omega), if_neg (by omega), List.getElem?_eq_none (by omega)]
    · rw [List.getElem?_set_ne h, wipeS_get s j is]
      have : (j ∈ i :: is ∧ j < s.length) ↔ (j ∈ is ∧ j < s.length) := by
        rw [List.mem_cons]
        exact ⟨fun ⟨a, b⟩ => ⟨a.resolve_left fun z => h z.symm, b⟩, fun ⟨a, b⟩ => ⟨.inr a, b⟩⟩
      simp only [this]
theorem wipe_get (σ : L2.St) (j : Nat) : ∀ is : List Nat, (wipe σ is)[j]? = if j ∈ is ∧ j < σ.length then some none else σ[j]?
  | [] => by simp [wipe]
  | i :: is => by
    rw [wipe]
    by_cases h : i = j
    · subst h
      by_cases hl : i < σ.length
      · rw [List.getElem?_set_self (by rw [wipe_length]; exact hl), if_pos ⟨by simp, hl⟩]
      · rw [List.getElem?_eq_none (by rw [List.length_set, wipe_length]; omega), if_neg (by omega), List.getElem?_eq_none (by omega)]
    · rw [List.getElem?_set_ne h, wipe_get σ j is]
      have : (j ∈ i :: is ∧ j < σ.length) ↔ (j ∈ is ∧ j < σ.length) := by
        rw [List.mem_cons]
        exact ⟨fun ⟨a, b⟩ => ⟨a.resolve_left fun z => h z.symm, b⟩, fun ⟨a, b⟩ => ⟨.inr a, b⟩⟩
      simp only [this]
theorem restore_len (s0 s : Sl) : ∀ is : List Nat, (restore is s0 s).length = s.length
  | [] => rfl
  | i :: is => by rw [restore, List.length_set, restore_len s0 s is]
theorem restore_get (s0 s : Sl) (j : Nat) : ∀ is : List Nat, (restore is s0 s)[j]? = if j ∈ is ∧ j < s.length then some (s0[j]?.getD .no) else s[j]?
  | [] => by simp [restore]
  | i :: is => by
    rw [restore]
    by_cases h : i = j
    · subst h
      by_cases hl : i < s.length
      · rw [List.getElem?_set_self (by rw [restore_len]; exact hl), if_pos ⟨by simp, hl⟩]
      · rw [List.getElem?_eq_none (by rw [List.length_set, restore_len]; omega), if_neg (by omega), List.getElem?_eq_none (by omega)]
    · rw [List.getElem?_set_ne h, restore_get s0 s j is]
      have : (j ∈ i :: is ∧ j < s.length) ↔ (j ∈ is ∧ j < s.length) := by
        rw [List.mem_cons]
        exact ⟨fun ⟨a, b⟩ => ⟨a.resolve_left fun z => h z.symm, b⟩, fun ⟨a, b⟩ => ⟨.inr a, b⟩⟩
      simp only [this]
theorem noOw_F {vs : List Nat} (R : Rel K B Dz F s σ H) (h : noOw vs s = true) {i : Nat} (hi : i ∈ vs) : F i = [] ∧ i < s.length := by
  unfold noOw at h
  have := List.all_eq_true.mp h i hi
  cases q : s[i]? with
  | none => rw [q] at this; cases this
  | some x =>
    refine ⟨?_, (List.getElem?_eq_some_iff.mp q).1⟩
    have ok := R.sl i x q
    cases x with
    | no => exact ok
    | bo k d => exact ok.1
    | ow k d => rw [q] at this; cases this
theorem Rel.wiped {vs : List Nat} (R : Rel K B Dz F s σ H) (h : noOw vs s = true) : Rel K B Dz F (wipeS vs s) (wipe σ vs) H := by
  refine ⟨by rw [wipeS_len, wipe_length, R.len], fun j x e => ?_, R.nd, R.dj, R.dz, fun j hj => R.out j (by rw [wipeS_len] at hj; exact hj), R.mt, R.tk, R.bz, R.bt⟩
  rw [wipeS_get] at e
  split at e
  · rename_i hj
    cases e
    exact (noOw_F R h hj.1).1
  · rename_i hj
    rw [wipe_get, if_neg (by rw [← R.len]; exact hj)]
    exact R.sl j x e
theorem Rel.back {vs : List Nat} (R0 : Rel K B Dz F s σ H) (h : noOw vs s = true) (t : Tr M Dz F H Dz' F' H') (R : Rel K B Dz' F' s' (wipe σ vs) H') (hf : ∀ i ∈ vs, F' i = []) : Rel K B Dz' F' (restore vs s s') σ H' := by
  have hl : s'.length = s.length := by rw [R.len, wipe_length, R0.len]
  refine ⟨by rw [restore_len, hl, R0.len], fun j x e => ?_, R.nd, R.dj, R.dz, fun j hj => R.out j (by rw [restore_len] at hj; exact hj), R.mt, R.tk, R.bz, R.bt⟩
  rw [restore_get] at e
  split at e
  · rename_i hj
    cases e
    have lt : j < s.length := by omega
    have q : s[j]? = some s[j] := List.getElem?_eq_getElem lt
    have ok := R0.sl j _ q
    have nw := List.all_eq_true.mp h j hj.1
    rw [q] at nw ⊢
    show SlotOk K B H' Dz' F' j σ[j]? s[j]
    cases hx : s[j] with
    | no => exact hf j hj.1
    | bo k d =>
      rw [hx] at ok
      obtain ⟨h1, v, G, h2, h3, h4⟩ := ok
      refine ⟨hf j hj.1, v, G, h2, h3.stay t.dz t.nm (fun a o e z => t.keep a o e fun i _ m => R0.dz i a m z) fun a o e m => t.keep a o e fun i _ mi => R0.bz i a mi (h4 a m), h4⟩
    | ow k d => rw [hx] at nw; cases nw
  · rename_i hj
    have := R.sl j x e
    rw [wipe_get, if_neg (by rw [← R0.len, ← hl]; exact hj)] at this
    exact this
theorem Tr.shrink {vs : List Nat} (t : Tr (M ++ vs) Dz F H Dz' F' H') (h : ∀ i ∈ vs, F i = [] ∧ F' i = []) : Tr M Dz F H Dz' F' H' := by
  have sub : ∀ {a : Addr}, (∃ i ∈ M ++ vs, a ∈ F i) → ∃ i ∈ M, a ∈ F i := fun ⟨i, hi, m⟩ => by
    rcases List.mem_append.mp hi with z | z
    · exact ⟨i, z, m⟩
    · rw [(h i z).1] at m; cases m
  refine ⟨t.dz, fun a z => (t.new a z).imp id (.imp id sub), fun a o e k => t.keep a o e fun i hi m => ?_, t.nm, fun i hi => ?_, fun i a hi m => (t.fn i a (List.mem_append_left _ hi) m).imp id sub⟩
  · rcases List.mem_append.mp hi with z | z
    · exact k i z m
    · rw [(h i z).1] at m; cases m
  · by_cases hv : i ∈ vs
    · rw [(h i hv).1, (h i hv).2]
    · exact t.fs i fun z => (List.mem_append.mp z).elim hi hv
theorem Tr.fresh (t : Tr M1 Dz F H Dz1 F1 H1) {a : Addr} (h : H1 a = none ∨ ∃ i ∈ M2, a ∈ F1 i) : H a = none ∨ ∃ i ∈ M1 ++ M2, a ∈ F i := by
  have lift : (∃ i ∈ M1, a ∈ F i) → ∃ i ∈ M1 ++ M2, a ∈ F i := fun ⟨i, hi, z⟩ => ⟨i, List.mem_append_left _ hi, z⟩
  rcases h with z | ⟨i, hi, z⟩
  · exact (t.none_of z).imp id lift
  · rcases t.back z with z | z | z
    · exact .inr ⟨i, List.mem_append_right _ hi, z⟩
    · exact .inl z
    · exact .inr (lift z)
theorem mut_ne {p a : Addr} {o u : HO} (h : H p = some u) (hm : Mut (some u)) (e : H a = some o) (n : ¬ Mut (some o)) : a ≠ p := by
  rintro rfl
  rw [h] at e; cases e
  exact n hm
/-- an object of nobody's slots is written -/
theorem Rel.write {p : Addr} {u o : HO} (R : Rel K B Dz F s σ H) (hD : H p = some u) (hm : Mut (some u)) (nd : ¬ Dz p) (nb : ¬ B p) (nf : ∀ j, p ∉ F j) : Rel K B Dz F s σ (upd H p o) := by
  have ne : ∀ {P : Addr → Prop} {a : Addr}, ¬ P p → P a → a ≠ p := fun h z e => h (e ▸ z)
  have st : ∀ {k : Nat} {d : D} {v : V} {G : List Addr}, Rp K H Dz k d v G → p ∉ G → Rp K (upd H p o) Dz k d v G := fun {k d v G} r ng => r.stay (fun _ z => z) (fun a o e n => by rw [upd_ne (mut_ne hD hm e n)]; exact e) (fun a o e z => by rw [upd_ne (ne nd z)]; exact e) fun a o e m => by rw [upd_ne (ne (P := (· ∈ G)) ng m)]; exact e
  refine ⟨R.len, fun j x e => ?_, R.nd, R.dj, R.dz, R.out, fun j a m => ?_, fun a z => ?_, R.bz, fun a z => ?_⟩
  · have h := R.sl j x e
    cases x with
    | no => exact h
    | bo k d => obtain ⟨h1, v, G, h2, h3, h4⟩ := h; exact ⟨h1, v, G, h2, st h3 fun z => nb (h4 _ z), h4⟩
    | ow k d => obtain ⟨v, h2, h3⟩ := h; exact ⟨v, h2, st h3 (nf j)⟩
  · rw [upd_ne (ne (P := (· ∈ F j)) (nf j) m)]; exact R.mt j a m
  · rw [upd_ne (ne nd z)]; exact R.tk a z
  · rw [upd_ne (ne nb z)]; exact R.bt a z
theorem Tr.write {p : Addr} {o : HO} (t : Tr M Dz F H Dz' F' H') (hD : H p = none) : Tr M Dz F H Dz' F' (upd H' p o) :=
  ⟨t.dz, t.new, fun a o e k => by rw [upd_ne (ne_of_none e hD)]; exact t.keep a o e k, fun a o e n => by rw [upd_ne (ne_of_none e hD)]; exact t.nm a o e n, t.fs, t.fn⟩
theorem Rps.snoc {k : Nat} : ∀ {ds : List D} {vs : List V} {G : List Addr} {d : D} {v : V} {G' : List Addr}, Rps K H Dz k ds vs G → Rp K H Dz k d v G' → Rps K H Dz k (ds ++ [d]) (vs ++ [v]) (G ++ G')
  | _, _, _, d, v, G', .nil, p => by
    have := Rps.cons p (.nil (K := K) (H := H) (Dz := Dz) (k := k))
    simpa using this
  | _, _, _, d, v, G', .cons q r, p => by
    have := Rps.cons q (Rps.snoc r p)
    simpa [List.append_assoc] using this
theorem wipe_sig {vs : List Nat} {σ σ2 : L2.St} (h : SigE vs (wipe σ vs) σ2) : wipe σ2 vs = wipe σ vs := by
  apply List.ext_getElem?
  intro j
  have hl : σ2.length = σ.length := by rw [h.1, wipe_length]
  rw [wipe_get, wipe_get, hl]
  by_cases hj : j ∈ vs
  · by_cases hlt : j < σ.length
    · rw [if_pos ⟨hj, hlt⟩, if_pos ⟨hj, hlt⟩]
    · rw [if_neg (by omega), if_neg (by omega), List.getElem?_eq_none (by omega), List.getElem?_eq_none (by omega)]
  · rw [if_neg (fun z => hj z.1), if_neg (fun z => hj z.1), h.2 j hj, wipe_get, if_neg (fun z => hj z.1)]
end

variable {cf : Nat → List Arg → Rs} {io : List Nat} {X : Cx}
theorem Rp.lo_inv {K : PySem.W.Frag} {H : Hp} {Dz : Addr → Prop} {k : Nat} {ds : List D} {p : Addr} {L : List Addr} (h : Rp K H Dz (k + 1) (.lst ds) (.ref p) L) : ∃ vs G, L = p :: G ∧ H p = some (.lst vs) ∧ Rps K H Dz k ds vs G := by
  cases h with
  | lo h r => exact ⟨_, _, rfl, h, r⟩
/-- a comprehension's condition -/
def tCo (cf : Nat → List Arg → Rs) (io : List Nat) (K : PySem.W.Frag) (c : Option E) : TT := fun σ H Q => ∃ (B Dz : Addr → Prop) (F : Nat → List Addr) (s : Sl), Rel K B Dz F s σ H ∧ ∃ b s', evC cf io c s = .ok b s' ∧
  ∀ (Dz' : Addr → Prop) (F' : Nat → List Addr) (H' : Hp), Tr (E.mutso c) Dz F H Dz' F' H' → Rel K B Dz' F' s' σ H' → Q b H'
theorem good_noIf : PTs X [] (tCo cf io X.K none) := by
  refine ⟨fun pins s0 σ H Q I h => pts_nil.run pins s0 σ H Q I ?_⟩
  obtain ⟨B, Dz, F, s, R, b, s', e, c⟩ := h
  rw [evC] at e
  cases e
  exact c Dz F H (Tr.refl _) R
theorem good_if {e : E} {pe : Expr} (h : Good cf io X e pe) : PTs X [pe] (tCo cf io X.K (some e)) := by
  refine ⟨fun pins s0 σ H Q I hh => (pts_one h.tst).run pins s0 σ H Q I ?_⟩
  obtain ⟨B, Dz, F, s, R, b, s', q, c⟩ := hh
  rw [evC] at q
  obtain ⟨ra, s1, ea, q⟩ := Ev.bind_ok q
  obtain ⟨b', eb, q⟩ := bCond_ok q
  cases q
  exact tE.next cf io R ea fun Dz1 F1 H1 v G1 t1 R1 o1 g1 => ⟨b, o1.bl eb, c Dz1 F1 H1 t1 R1⟩
theorem Tr.same {M : List Nat} {Dz Dz' : Addr → Prop} {F F' : Nat → List Addr} {H H' : Hp} (t : Tr M Dz F H Dz' F' H') {L : List Nat} (h : ∀ i ∈ L, F i = [] ∧ F' i = []) : ∀ i ∈ L, F i = [] ∧ F' i = [] := h
theorem lc_key {k : Nat} {e it : E} {t : Tg} {c : Option E} : ∀ σ H Q, tE cf io X.K (.lc k e t it c) σ H Q →
    tLc (tI cf io X.K it (E.muts e ++ E.mutso c)) (gT X.K t) (tCo cf io X.K c) (tE cf io X.K e) t.slots σ H Q := by
  rintro σ H Q ⟨B, Dz, F, s, R, r, s', q, cc⟩
  rw [evE] at q
  obtain ⟨r0, s0, e1, q⟩ := Ev.bind_ok q
  obtain ⟨ds, s1, e2, q⟩ := Ev.bind_ok q
  have ⟨hw, hs⟩ : r0.walk (E.muts e ++ E.mutso c) (itemsOf r0.d) = some ds ∧ s0 = s1 := by
    unfold Ev.of at e2
    split at e2
    · cases e2; exact ⟨by assumption, rfl⟩
    · cases e2
  subst hs
  split at q
  case isFalse => cases q
  rename_i hh
  obtain ⟨hk, hno, hbig⟩ := hh
  obtain ⟨ys, s6, e3, q⟩ := Ev.bind_ok q
  injection q with q1 q2
  subst q1 q2
  refine ⟨B, Dz, F, s, R, r0, s0, ds, e1, hw, fun Dz1 F1 H1 J t1 R1 hJ => ?_⟩
  intro p hp
  have hf1 : ∀ i ∈ t.slots, F1 i = [] := fun i hi => (noOw_F R1 hno hi).1
  refine ⟨fun i m Hi => m = ds.length - i ∧ i ≤ ds.length ∧ ∃ (Dzi : Addr → Prop) (Fi : Nat → List Addr) (si : Sl) (done rest : List D) (G : List Addr), Rel X.K B Dzi Fi si (wipe σ t.slots) Hi ∧
    Tr ((E.muts e ++ E.mutso c) ++ t.slots) Dz1 F1 H1 Dzi Fi Hi ∧ (∀ i ∈ t.slots, Fi i = []) ∧ RvOk X.K B Hi Dzi Fi (.ow k (.lst done)) (.ref p) (p :: G) ∧ (∀ a ∈ p :: G, H1 a = none ∨ ∃ i ∈ E.muts e ++ E.mutso c, a ∈ F1 i) ∧
    lcGo (fun x s2 => match Tg.put t x s2 with
        | some s3 => (evC cf io c s3).bind fun b s4 => if b then (evE cf io e s4).bind fun r s5 => match r.fit (k - 1) with
            | some d => if noOw t.slots s5 = true then .ok (some d) (wipeS t.slots s5) else .no
            | none => .no
          else if noOw t.slots s4 = true then .ok none (wipeS t.slots s4) else .no
        | none => .no) (ds.drop i) si = .ok rest s6 ∧ done ++ rest = ys ∧ done.length ≤ i, ⟨ds.length, by omega, by omega, Dz1, F1, wipeS t.slots s0, [], ys, [], ?_, ?_, hf1, ?_, ?_, e3, rfl, Nat.le_refl _⟩, ?_⟩
  · refine (R1.wiped hno).grow (same_new hp) (fun _ z => z) (fun _ z => .inl z) fun a z => ?_
    by_cases ea : a = p
    · rw [ea, upd_same]; exact fun z => nomatch z
    · rw [upd_ne ea]; exact R1.tk a z
  · exact (Tr.refl _).write hp
  · obtain ⟨j, rfl⟩ : ∃ j, k = j + 1 := ⟨k - 1, by omega⟩
    refine ⟨.lo upd_same .nil, by simp, fun a m => ?_⟩
    obtain rfl : a = p := by simpa using m
    exact ⟨fun z => R1.tk a z hp, fun z => R1.bt a z hp, fun j mj => tracked (R1.mt j a mj) hp⟩
  · intro a m
    obtain rfl : a = p := by simpa using m
    exact .inl hp
  · rintro i m Hi ⟨rfl, hi, Dzi, Fi, si, done, rest, G, Ri, ti, hfi, oi, gi, ei, hy, hd⟩
    have tis : Tr (E.muts e ++ E.mutso c) Dz1 F1 H1 Dzi Fi Hi := ti.shrink fun i hi => ⟨hf1 i hi, hfi i hi⟩
    have jx := hJ Dzi Fi Hi tis i
    by_cases hlt : i < ds.length
    · refine .inr ⟨(jx.1 hlt).1, fun H' => ∃ m', m' < ds.length - i ∧ (m' = ds.length - (i + 1) ∧ i + 1 ≤ ds.length ∧ ∃ (Dzi : Addr → Prop) (Fi : Nat → List Addr) (si : Sl) (done rest : List D) (G : List Addr), Rel X.K B Dzi Fi si (wipe σ t.slots) H' ∧
        Tr ((E.muts e ++ E.mutso c) ++ t.slots) Dz1 F1 H1 Dzi Fi H' ∧ (∀ i ∈ t.slots, Fi i = []) ∧ RvOk X.K B H' Dzi Fi (.ow k (.lst done)) (.ref p) (p :: G) ∧ (∀ a ∈ p :: G, H1 a = none ∨ ∃ i ∈ E.muts e ++ E.mutso c, a ∈ F1 i) ∧
        lcGo (fun x s2 => match Tg.put t x s2 with
            | some s3 => (evC cf io c s3).bind fun b s4 => if b then (evE cf io e s4).bind fun r s5 => match r.fit (k - 1) with
                | some d => if noOw t.slots s5 = true then .ok (some d) (wipeS t.slots s5) else .no
                | none => .no
              else if noOw t.slots s4 = true then .ok none (wipeS t.slots s4) else .no
            | none => .no) (ds.drop (i + 1)) si = .ok rest s6 ∧ done ++ rest = ys ∧ done.length ≤ i + 1), fun H' h => h, fun x H' hyl => ?_⟩
      obtain ⟨rfl, y, hy1, hy2⟩ := (jx.1 hlt).2 x H' hyl
      have hdr : ds.drop i = y :: ds.drop (i + 1) := by
        rw [List.drop_eq_getElem_cons hlt]
        rw [List.getElem?_eq_getElem hlt] at hy1
        cases hy1; rfl
      rw [hdr] at ei
      simp only [lcGo] at ei
      obtain ⟨o, sn, ex, ei⟩ := Ev.bind_ok ei
      obtain ⟨rest2, sl, er, ei⟩ := Ev.bind_ok ei
      injection ei with z1 z2
      subst z2
      split at ex
      case h_2 => cases ex
      rename_i s3 ep
      obtain ⟨b, s4, ec, ex⟩ := Ev.bind_ok ex
      refine ⟨B, Dzi, Fi, si, y, s3, Ri, hy2, ep, fun σ2 F2 t2 R2 sg => ⟨wipe_sig sg, B, Dzi, F2, s3, R2, b, s4, ec, fun Dz3 F3 H3 t3 R3 => ?_⟩⟩
      have oi3 := (oi.tr Ri t2 (by simp [RV.src, clash])).tr R2 t3 (by simp [RV.src, clash])
      have sgl : SigE t.slots (wipe σ t.slots) σ2 := sg
      have back : ∀ {s7 : Sl} {Dz7 : Addr → Prop} {F7 : Nat → List Addr} {H7 : Hp}, Rel X.K B Dz7 F7 s7 σ2 H7 → noOw t.slots s7 = true → Rel X.K B Dz7 F7 (wipeS t.slots s7) (wipe σ t.slots) H7 ∧ ∀ i ∈ t.slots, F7 i = [] := fun R7 h7 => by
        have := R7.wiped h7
        rw [wipe_sig sg] at this
        exact ⟨this, fun i hi => (noOw_F R7 h7 hi).1⟩
      show if b = true then _ else _
      cases b with
      | false =>
        rw [if_neg Bool.false_ne_true] at ex ⊢
        split at ex
        case isFalse => cases ex
        rename_i hno4
        injection ex with z3 z4
        subst z3 z4
        obtain ⟨Rw, hfw⟩ := back R3 hno4
        refine ⟨ds.length - (i + 1), by omega, rfl, hlt, Dz3, F3, _, done, rest2, G, Rw, ?_, hfw, oi3, gi, er, ?_, by omega⟩
        · refine ((ti.trans t2).trans t3).mono fun j hj => ?_
          simp only [List.mem_append] at hj ⊢
          grind
        · rw [← hy, ← z1]
      | true =>
        rw [if_pos rfl] at ex ⊢
        obtain ⟨rv, s5, ee, ex⟩ := Ev.bind_ok ex
        split at ex
        case h_2 => cases ex
        rename_i d ed
        split at ex
        case isFalse => cases ex
        rename_i hno5
        injection ex with z3 z4
        subst z3 z4
        refine tE.next cf io R3 ee fun Dz4 F4 H4 v G4 t4 R4 o4 g4 => ?_
        have oi4 := oi3.tr R3 t4 (by simp [RV.src, clash])
        obtain ⟨j, rfl⟩ : ∃ j, k = j + 1 := ⟨k - 1, by omega⟩
        obtain ⟨q1, q2, q3⟩ := id oi4
        obtain ⟨acc, G, eG, hacc, racc⟩ := q1.lo_inv
        cases eG
        · skip
          obtain ⟨G', N, f1, f2, f3, f4⟩ := o4.fit ed
          have og := o4.out
          have ndp : p ∉ G := (List.nodup_cons.mp q2).1
          have pp := q3 p List.mem_cons_self
          have djx : ∀ a ∈ p :: G, a ∉ G4 := fun a m m4 => by
            have mt3 : Mut (H3 a) := oi3.1.mut a m
            rcases g4 a m4 with z | ⟨i, _, z⟩
            · exact tracked mt3 z
            · exact (oi3.2.2 a m).2.2 i z
          have pg : p ∉ G4 := djx p List.mem_cons_self
          have tg : Tr (((E.muts e ++ E.mutso c) ++ t.slots) ++ t.slots ++ E.mutso c ++ E.muts e) Dz1 F1 H1 Dz4 F4 H4 := (((ti.trans t2).trans t3).trans t4)
          have tg2 : Tr ((E.muts e ++ E.mutso c) ++ t.slots) Dz1 F1 H1 Dz4 F4 H4 := tg.mono fun j hj => by
            simp only [List.mem_append] at hj ⊢
            grind
          have fr4 : ∀ a ∈ G4, H1 a = none ∨ ∃ i ∈ E.muts e ++ E.mutso c, a ∈ F1 i := fun a m => by
            have := ((ti.trans t2).trans t3).fresh (g4 a m)
            refine this.imp id fun ⟨i, hi, z⟩ => ?_
            simp only [List.mem_append] at hi ⊢
            by_cases hv : i ∈ t.slots
            · rw [hf1 i hv] at z; cases z
            · exact ⟨i, by grind, z⟩
          have len1 : acc.length = done.length := racc.len.symm
          have nez : ∀ a, Or Dz4 N a → a ≠ p := fun a z => by
            rcases z with z | z
            · exact fun h => pp.1 (h ▸ z)
            · exact fun h => pg (h ▸ f3.subset z)
          have nel : ∀ {L : List Addr} {a : Addr}, p ∉ L → a ∈ L → a ≠ p := fun h m e => h (e ▸ m)
          have st : ∀ {k' : Nat} {d' : D} {w : V} {L : List Addr}, Rp X.K H4 (Or Dz4 N) k' d' w L → p ∉ L → Rp X.K (upd H4 p (.lst (acc ++ [v]))) (Or Dz4 N) k' d' w L := fun {k' d' w L} r0 ng => r0.stay (fun _ z => z) (fun a o e n => by rw [upd_ne (mut_ne hacc True.intro e n)]; exact e) (fun a o e z => by rw [upd_ne (nez a z)]; exact e) fun a o e m => by rw [upd_ne (nel ng m)]; exact e
          have sts : ∀ {k' : Nat} {d' : List D} {w : List V} {L : List Addr}, Rps X.K H4 (Or Dz4 N) k' d' w L → p ∉ L → Rps X.K (upd H4 p (.lst (acc ++ [v]))) (Or Dz4 N) k' d' w L := fun {k' d' w L} r0 ng => r0.stay (fun _ z => z) (fun a o e n => by rw [upd_ne (mut_ne hacc True.intro e n)]; exact e) (fun a o e z => by rw [upd_ne (nez a z)]; exact e) fun a o e m => by rw [upd_ne (nel ng m)]; exact e
          have pG' : p ∉ G' := fun m => pg (f2.subset m)
          refine ⟨acc, hacc, by rw [len1, ← big_size]; omega, ds.length - (i + 1), by omega, rfl, hlt, Or Dz4 N, F4, _, done ++ [d], rest2, G ++ G', ?_, ?_, ?_, ⟨?_, ?_, fun a m => ?_⟩, fun a m => ?_, er, ?_, by rw [List.length_append, List.length_singleton]; omega⟩
          · refine (back ?_ hno5).1
            have Rg := R4.give (N := N) fun a m => ⟨(og.2 a (f3.subset m)).2.2.1, tracked (og.2 a (f3.subset m)).2.2.2⟩
            exact Rg.write hacc True.intro (fun z => nez p z rfl) pp.2.1 pp.2.2
          · exact (Tr.give (fun a m => (fr4 a (f3.subset m)).imp id fun ⟨i, hi, z⟩ => ⟨i, List.mem_append_left _ hi, z⟩) tg2).write hp
          · exact fun i hi => (noOw_F R4 hno5 hi).1
          · exact .lo upd_same (Rps.snoc (sts (racc.more fun _ z => .inl z) ndp) (st f1 pG'))
          · rw [← List.cons_append, List.nodup_append]
            refine ⟨q2, og.1.sublist f2, fun a m b m2 e => ?_⟩
            subst e
            exact djx a m (f2.subset m2)
          · rw [← List.cons_append, List.mem_append] at m
            rcases m with m | m
            · refine ⟨fun z => ?_, (q3 a m).2⟩
              rcases z with z | z
              · exact (q3 a m).1 z
              · exact djx a m (f3.subset z)
            · have := og.2 a (f2.subset m)
              refine ⟨fun z => ?_, this.2.1, this.2.2.1⟩
              rcases z with z | z
              · exact this.1 z
              · exact f4 a m z
          · rw [← List.cons_append, List.mem_append] at m
            rcases m with m | m
            · exact gi a m
            · exact fr4 a (f2.subset m)
          · rw [← hy, ← z1]
            simp
    · have e0 : ds.drop i = [] := List.drop_eq_nil_of_le (by omega)
      rw [e0] at ei
      simp only [lcGo] at ei
      injection ei with z1 z2
      subst z1 z2
      refine .inl ⟨jx.2 (by omega), ?_⟩
      rw [List.append_nil] at hy
      subst hy
      have c2 : Cont X.K B σ (E.muts e ++ E.mutso c) Dz1 F1 H1 (restore t.slots s0 si) (.ow k (.lst done)) Q := (cc.mono (M1 := E.muts it ++ (E.muts e ++ E.mutso c)) fun i hi => by
        simp only [E.muts, List.mem_append] at hi ⊢
        grind).later t1
      exact c2 Dzi Fi Hi _ _ tis (R1.back hno tis Ri hfi) oi gi
end Ti
end

section
/-! the slots that an expression does not name stay -/
namespace Ti
open PySem PySem.Spec PyProof.Rows L2
variable [PWc]

variable {cf : Nat → List Arg → Rs} {io : List Nat}
/-- besides M nothing changed -/
def Fr (M : List Nat) (s s' : Sl) : Prop := s'.length = s.length ∧ ∀ j : Nat, j ∉ M → s'[j]? = s[j]?
theorem Fr.refl (M : List Nat) (s : Sl) : Fr M s s := ⟨rfl, fun _ _ => rfl⟩
theorem Fr.trans {M N L : List Nat} {s s1 s2 : Sl} (h : Fr M s s1) (k : Fr N s1 s2) (i : ∀ j, j ∉ L → j ∉ M ∧ j ∉ N) : Fr L s s2 := ⟨k.1.trans h.1, fun j hj => (k.2 j (i j hj).2).trans (h.2 j (i j hj).1)⟩
theorem Fr.mono {M N : List Nat} {s s1 : Sl} (h : Fr M s s1) (i : ∀ j, j ∉ N → j ∉ M) : Fr N s s1 := ⟨h.1, fun j hj => h.2 j (i j hj)⟩
theorem Fr.nil {s s' : Sl} (h : Fr [] s s') : s' = s := List.ext_getElem? fun j => h.2 j (by simp)
theorem Fr.set {M : List Nat} {s : Sl} {i : Nat} {x : Slot} (h : i ∈ M) : Fr M s (s.set i x) := ⟨List.length_set, fun j hj => List.getElem?_set_ne (show i ≠ j from fun z => hj (by rw [← z]; exact h))⟩
theorem fr_out : ∀ {is : List Nat} {ds : List D} {s s' : Sl}, setOuts s is ds = some s' → Fr is s s'
  | [], [], s, s', h => by simp only [setOuts] at h; cases h; exact Fr.refl _ _
  | [], _ :: _, s, s', h => by simp only [setOuts] at h; cases h
  | _ :: _, [], s, s', h => by simp only [setOuts] at h; cases h
  | i :: is, d :: ds, s, s', h => by
    simp only [setOuts] at h
    split at h
    · exact (Fr.set (M := [i]) (by simp)).trans (fr_out h) fun j hj => by simpa using hj
    · cases h
mutual
theorem fr_put : ∀ {t : Tg} {d : D} {s s' : Sl}, Tg.put t d s = some s' → Fr t.slots s s'
  | .nm i, d, s, s', h => by
    simp only [Tg.put] at h
    split at h
    · cases h
      exact Fr.set (by simp [Tg.slots])
    · cases h
  | .tp ts, .tup ds, s, s', h => by
    simp only [Tg.put] at h
    exact fr_puts h
  | .tp ts, .lst ds, s, s', h => by
    simp only [Tg.put] at h
    exact fr_puts h
  | .tp ts, .non, s, s', h | .tp ts, .bl _, s, s', h | .tp ts, .int _, s, s', h | .tp ts, .str _, s, s', h | .tp ts, .dct _, s, s', h | .tp ts, .scr _, s, s', h | .tp ts, .ins _ _, s, s', h => by simp only [Tg.put] at h; cases h
theorem fr_puts : ∀ {t : List Tg} {d : List D} {s s' : Sl}, Tg.puts t d s = some s' → Fr (Tg.slotss t) s s'
  | [], [], s, s', h => by simp only [Tg.puts] at h; cases h; exact Fr.refl _ _
  | [], _ :: _, s, s', h => by simp only [Tg.puts] at h; cases h
  | _ :: _, [], s, s', h => by simp only [Tg.puts] at h; cases h
  | t :: ts, d :: ds, s, s', h => by
    simp only [Tg.puts] at h
    rw [Option.bind_eq_some_iff] at h
    obtain ⟨s1, h1, h2⟩ := h
    exact (fr_put h1).trans (fr_puts h2) fun j hj => by simpa [Tg.slotss] using hj
end
theorem fr_go {f : D → Sl → Ev (Option D)} {M : List Nat} (hf : ∀ x s o s', f x s = .ok o s' → Fr M s s') : ∀ {ds ys : List D} {s s' : Sl}, lcGo f ds s = .ok ys s' → Fr M s s'
  | [], ys, s, s', h => by simp only [lcGo] at h; cases h; exact Fr.refl _ _
  | x :: xs, ys, s, s', h => by
    simp only [lcGo] at h
    obtain ⟨o, s1, h1, h⟩ := Ev.bind_ok h
    obtain ⟨ys', s2, h2, h⟩ := Ev.bind_ok h
    cases h
    exact (hf _ _ _ _ h1).trans (fr_go hf h2) fun j hj => ⟨hj, hj⟩
theorem rk_s {o : Option (Nat × D)} {s s' : Sl} {r : RV} (h : Ev.rk o s = .ok r s') : s' = s := by
  obtain ⟨_, _, _, _, e⟩ := rk_ok h
  exact e
mutual
theorem fr_E : ∀ {e : E} {s s' : Sl} {r : RV}, evE cf io e s = .ok r s' → Fr (E.muts e) s s'
  | .con d, s, s', r, h => by rw [evE] at h; cases h; exact Fr.refl _ _
  | .gl _ d, s, s', r, h => by rw [evE] at h; cases h; exact Fr.refl _ _
  | .var i, s, s', r, h => by
    rw [evE] at h
    unfold Ev.of at h
    split at h
    · cases h; exact Fr.refl _ _
    · cases h
  | .mv i, s, s', r, h => by
    rw [evE] at h
    split at h
    · split at h
      · cases h
      · cases h
        exact Fr.set (by simp [E.muts])
    · cases h
  | .gv i, s, s', r, h => by
    rw [evE] at h
    split at h
    · split at h
      · cases h
      · cases h
        exact Fr.set (by simp [E.muts])
    · cases h
  | .io i, s, s', r, h => by rw [evE] at h; cases h
  | .bin o a b, s, s', r, h => by
    rw [evE] at h
    obtain ⟨r1, s1, h1, h⟩ := Ev.bind_ok h
    split at h
    · cases h
    obtain ⟨r2, s2, h2, h⟩ := Ev.bind_ok h
    split at h
    · obtain rfl := rk_s h
      exact (fr_E h1).trans (fr_E h2) fun j hj => by simpa [E.muts] using hj
    · cases h
  | .neg a, s, s', r, h => by
    rw [evE] at h
    obtain ⟨r1, s1, h1, h⟩ := Ev.bind_ok h
    split at h
    · cases h; exact (fr_E h1 :)
    · cases h
  | .cmp o a b, s, s', r, h => by
    rw [evE] at h
    obtain ⟨r1, s1, h1, h⟩ := Ev.bind_ok h
    split at h
    · cases h
    obtain ⟨r2, s2, h2, h⟩ := Ev.bind_ok h
    obtain ⟨_, _, _, rfl⟩ := r0_ok h
    exact (fr_E h1).trans (fr_E h2) fun j hj => by simpa [E.muts] using hj
  | .chn o1 o2 a b c, s, s', r, h => by
    rw [evE] at h
    obtain ⟨r1, s1, h1, h⟩ := Ev.bind_ok h
    split at h
    · cases h
    obtain ⟨r2, s2, h2, h⟩ := Ev.bind_ok h
    have k2 : Fr (E.muts a ++ E.muts b) s s2 := (fr_E h1).trans (fr_E h2) fun j hj => by simpa using hj
    split at h
    · split at h
      · cases h
      obtain ⟨r3, s3, h3, h⟩ := Ev.bind_ok h
      obtain ⟨_, _, _, rfl⟩ := r0_ok h
      exact k2.trans (fr_E h3) fun j hj => by grind [E.muts]
    · cases h
      exact k2.mono fun j hj => by simp [E.muts] at hj ⊢; exact ⟨hj.1, hj.2.1⟩
    · cases h
  | .and a b, s, s', r, h => by
    rw [evE] at h
    obtain ⟨r1, s1, h1, h⟩ := Ev.bind_ok h
    obtain ⟨c, _, h⟩ := bCond_ok h
    split at h
    · obtain ⟨r2, s2, h2, h⟩ := Ev.bind_ok h
      obtain ⟨c, _, h⟩ := bCond_ok h
      cases h
      exact (fr_E h1).trans (fr_E h2) fun j hj => by simpa [E.muts] using hj
    · cases h
      exact (fr_E h1).mono fun j hj => by simp [E.muts] at hj ⊢; exact hj.1
  | .or a b, s, s', r, h => by
    rw [evE] at h
    obtain ⟨r1, s1, h1, h⟩ := Ev.bind_ok h
    obtain ⟨c, _, h⟩ := bCond_ok h
    split at h
    · cases h
      exact (fr_E h1).mono fun j hj => by simp [E.muts] at hj ⊢; exact hj.1
    · obtain ⟨r2, s2, h2, h⟩ := Ev.bind_ok h
      obtain ⟨c, _, h⟩ := bCond_ok h
      cases h
      exact (fr_E h1).trans (fr_E h2) fun j hj => by simpa [E.muts] using hj
  | .not a, s, s', r, h => by
    rw [evE] at h
    obtain ⟨r1, s1, h1, h⟩ := Ev.bind_ok h
    obtain ⟨c, _, h⟩ := bCond_ok h
    cases h; exact (fr_E h1 :)
  | .ite c a b, s, s', r, h => by
    rw [evE] at h
    obtain ⟨r1, s1, h1, h⟩ := Ev.bind_ok h
    obtain ⟨c', _, h⟩ := bCond_ok h
    split at h
    · exact (fr_E h1).trans (fr_E h) fun j hj => by simp [E.muts] at hj; exact ⟨hj.1, hj.2.1⟩
    · exact (fr_E h1).trans (fr_E h) fun j hj => by simp [E.muts] at hj; exact ⟨hj.1, hj.2.2⟩
  | .tup k es, s, s', r, h => by
    rw [evE] at h
    obtain ⟨as, s1, h1, h⟩ := Ev.bind_ok h
    split at h
    · cases h; exact fr_As h1
    · cases h
  | .lst k es, s, s', r, h => by
    rw [evE] at h
    obtain ⟨as, s1, h1, h⟩ := Ev.bind_ok h
    split at h
    · split at h
      · cases h; exact fr_As h1
      · cases h
    · cases h
  | .dct ks vs, s, s', r, h => by
    rw [evE] at h
    obtain ⟨as, s1, h1, h⟩ := Ev.bind_ok h
    obtain ⟨bs, s2, h2, h⟩ := Ev.bind_ok h
    split at h
    · split at h
      · cases h
        exact (fr_As h1).trans (fr_As h2) fun j hj => by simpa [E.muts] using hj
      · cases h
    · cases h
  | .idx a b, s, s', r, h => by
    rw [evE] at h
    obtain ⟨r1, s1, h1, h⟩ := Ev.bind_ok h
    split at h
    · cases h
    obtain ⟨r2, s2, h2, h⟩ := Ev.bind_ok h
    split at h
    · cases h
      exact (fr_E h1).trans (fr_E h2) fun j hj => by simpa [E.muts] using hj
    · cases h
  | .slc a lo hi, s, s', r, h => by
    rw [evE] at h
    obtain ⟨r1, s1, h1, h⟩ := Ev.bind_ok h
    split at h
    · cases h
    obtain ⟨o1, s2, h2, h⟩ := Ev.bind_ok h
    obtain ⟨o2, s3, h3, h⟩ := Ev.bind_ok h
    split at h
    · obtain rfl := rk_s h
      exact ((fr_E h1).trans (L := E.muts a ++ E.mutso lo) (fr_O h2) fun j hj => by simpa using hj).trans (fr_O h3) fun j hj => by grind [E.muts]
    · cases h
  | .rev a, s, s', r, h => by
    rw [evE] at h
    obtain ⟨r1, s1, h1, h⟩ := Ev.bind_ok h
    split at h
    · obtain rfl := rk_s h; exact (fr_E h1 :)
    · cases h
  | .fld c a f, s, s', r, h => by
    rw [evE] at h
    obtain ⟨r1, s1, h1, h⟩ := Ev.bind_ok h
    split at h
    · cases h; exact (fr_E h1 :)
    · cases h
  | .fk c f, s, s', r, h => by rw [evE] at h; cases h
  | .srt a, s, s', r, h => by
    rw [evE] at h
    obtain ⟨r1, s1, h1, h⟩ := Ev.bind_ok h
    split at h
    · split at h
      · cases h; exact (fr_E h1 :)
      · cases h
    · cases h
  | .gix x zs a, s, s', r, h => by
    rw [evE] at h
    obtain ⟨r1, s1, h1, h⟩ := Ev.bind_ok h
    split at h
    · split at h
      · cases h; exact (fr_E h1 :)
      · cases h
    · cases h
  | .dcs k kvs, s, s', r, h => by
    rw [evE] at h
    split at h
    · cases h; exact Fr.refl _ _
    · cases h
  | .meth c m g es, s, s', r, h => by
    rw [evE] at h
    obtain ⟨as, s1, h1, h⟩ := Ev.bind_ok h
    split at h
    case isFalse => cases h
    split at h
    · split at h
      · split at h
        · split at h
          · rename_i ho
            cases h
            exact (fr_As h1).trans (fr_out ho) fun j hj => ⟨hj, fun z => hj (ios_muts h1 j z)⟩
          · cases h
        · cases h
      · cases h
    · cases h
  | .mk k c g es, s, s', r, h => by
    rw [evE] at h
    obtain ⟨as, s1, h1, h⟩ := Ev.bind_ok h
    split at h
    · split at h
      · split at h
        · cases h; exact (fr_As h1 :)
        · cases h
      · cases h
    · cases h
  | .call g es, s, s', r, h => by
    rw [evE] at h
    obtain ⟨as, s1, h1, h⟩ := Ev.bind_ok h
    split at h
    · split at h
      · split at h
        · split at h
          · rename_i ho
            cases h
            exact (fr_As h1).trans (fr_out ho) fun j hj => ⟨hj, fun z => hj (ios_muts h1 j z)⟩
          · cases h
        · cases h
      · cases h
    · cases h
  | .bi b es, s, s', r, h => by
    rw [evE] at h
    obtain ⟨as, s1, h1, h⟩ := Ev.bind_ok h
    split at h
    · split at h
      · obtain rfl := rk_s h; exact fr_As h1
      · cases h
    · cases h
  | .isi a ts, s, s', r, h => by
    rw [evE] at h
    obtain ⟨r1, s1, h1, h⟩ := Ev.bind_ok h
    split at h
    · cases h
    · cases h
    · cases h
    · cases h; exact (fr_E h1 :)
  | .bm m o es, s, s', r, h => by
    rw [evE] at h
    obtain ⟨r1, s1, h1, h⟩ := Ev.bind_ok h
    split at h
    · cases h
    obtain ⟨as, s2, h2, h⟩ := Ev.bind_ok h
    split at h
    · obtain rfl := rk_s h
      exact (fr_E h1).trans (fr_As h2) fun j hj => by simpa [E.muts] using hj
    · cases h
  | .lc k e t it c, s, s', r, hq => by
    rw [evE] at hq
    obtain ⟨r1, s1, h1, hq1⟩ := Ev.bind_ok hq
    clear hq
    obtain ⟨ds, s2, h2, h⟩ := Ev.bind_ok hq1
    clear hq1
    have e2 : s2 = s1 := by
      unfold Ev.of at h2
      split at h2
      · cases h2; rfl
      · cases h2
    subst e2
    split at h
    case isFalse => cases h
    rename_i hh
    obtain ⟨ys, s3, h3, h⟩ := Ev.bind_ok h
    cases h
    have w : ∀ s5 : Sl, Fr t.slots s5 (wipeS t.slots s5) := fun s5 => ⟨wipeS_len _ _, fun j hj => by rw [wipeS_get, if_neg fun z => hj z.1]⟩
    have k3 : Fr (t.slots ++ (E.mutso c ++ E.muts e)) (wipeS t.slots s2) s3 := by
      refine fr_go (fun x s o s' hx => ?_) h3
      split at hx
      case h_2 => cases hx
      rename_i sp hp
      obtain ⟨b, s4, h4, hx⟩ := Ev.bind_ok hx
      have k4 : Fr (t.slots ++ E.mutso c) s s4 := (fr_put hp).trans (fr_C h4) fun j hj => by simpa using hj
      split at hx
      · obtain ⟨rv, s5, h5, hx⟩ := Ev.bind_ok hx
        split at hx
        case h_2 => cases hx
        split at hx
        case isFalse => cases hx
        cases hx
        exact (k4.trans (L := t.slots ++ (E.mutso c ++ E.muts e)) (fr_E h5) fun j hj => by grind).trans (w s5) fun j hj => ⟨hj, by grind⟩
      · split at hx
        case isFalse => cases hx
        cases hx
        exact k4.trans (w s4) fun j hj => by grind
    have l3 : s3.length = s2.length := by rw [k3.1, wipeS_len]
    have k1 := fr_E h1
    refine ⟨by rw [restore_len, l3, k1.1], fun j hj => ?_⟩
    rw [restore_get]
    split
    · rename_i hjj
      rw [← k1.2 j (by grind [E.muts])]
      rw [List.getElem?_eq_getElem (by omega)]; rfl
    · rename_i hjj
      by_cases hjt : j ∈ t.slots
      · have hge : s3.length ≤ j := by
          by_cases hl : j < s3.length
          · exact absurd ⟨hjt, hl⟩ hjj
          · omega
        rw [List.getElem?_eq_none hge, List.getElem?_eq_none (by have := k1.1; omega)]
      · rw [k3.2 j (by grind [E.muts]), wipeS_get, if_neg fun z => hjt z.1, k1.2 j (by grind [E.muts])]
  | .rng es, s, s', r, h => by
    rw [evE] at h
    obtain ⟨as, s1, h1, h⟩ := Ev.bind_ok h
    split at h
    · split at h
      · cases h; exact fr_As h1
      · cases h
    · cases h
  | .zip _ _, s, s', r, h => by rw [evE] at h; cases h
  | .enm a, s, s', r, h => by
    rw [evE] at h
    obtain ⟨r1, s1, h1, h⟩ := Ev.bind_ok h
    split at h
    · cases h; exact (fr_E h1 :)
    · cases h
  | .fst _, s, s', r, h => by rw [evE] at h; cases h
theorem fr_As : ∀ {es : List E} {s s' : Sl} {as : List AV}, evAs cf io es s = .ok as s' → Fr (E.mutss es) s s'
  | [], s, s', as, h => by rw [evAs] at h; cases h; exact Fr.refl _ _
  | e :: es, s, s', as, h => by
    by_cases hx : ∃ i, e = .io i
    · obtain ⟨i, rfl⟩ := hx
      rw [evAs] at h
      split at h
      · obtain ⟨as1, s1, h1, h⟩ := Ev.bind_ok h
        cases h
        exact (fr_As h1).mono fun j hj => by simp [E.mutss] at hj ⊢; exact hj.2
      · cases h
    · obtain ⟨r, s1, as1, h1, _, h2, rfl⟩ := evAs_cons (fun j z => hx ⟨j, z⟩) h
      exact (fr_E h1).trans (fr_As h2) fun j hj => by simpa [E.mutss] using hj
theorem fr_O : ∀ {e : Option E} {s s' : Sl} {o : Option Int}, evO cf io e s = .ok o s' → Fr (E.mutso e) s s'
  | none, s, s', o, h => by rw [evO] at h; cases h; exact Fr.refl _ _
  | some e, s, s', o, h => by
    rw [evO] at h
    obtain ⟨r, s1, h1, h⟩ := Ev.bind_ok h
    split at h
    · cases h; exact (fr_E h1 :)
    · cases h
theorem fr_C : ∀ {e : Option E} {s s' : Sl} {b : Bool}, evC cf io e s = .ok b s' → Fr (E.mutso e) s s'
  | none, s, s', o, h => by rw [evC] at h; cases h; exact Fr.refl _ _
  | some e, s, s', o, h => by
    rw [evC] at h
    obtain ⟨r, s1, h1, h⟩ := Ev.bind_ok h
    obtain ⟨c, _, h⟩ := bCond_ok h
    cases h; exact (fr_E h1 :)
end
end Ti
end

section
/-! a change within a slot's value -/
namespace Ti
open PySem PySem.Spec PyProof.Rows L2
variable [PWc]

section
variable {K : PySem.W.Frag} {B Dz Dz' Dz1 Dz2 : Addr → Prop} {F F' F1 F2 : Nat → List Addr} {H H' H1 H2 : Hp} {M M1 M2 : List Nat} {s s' s1 s2 : Sl} {σ : L2.St}
/-- what stands at a path -/
inductive AtP (K : PySem.W.Frag) (H : Hp) : V → List D → V → Prop
  | nil {v : V} : AtP K H v [] v
  | cons {a : Addr} {vs : List V} {i : Int} {j : Nat} {w u : V} {ks : List D} : (SqL K H a vs ∨ SqU K H a vs) → place vs.length i = some j → vs[j]? = some w → AtP K H w ks u → AtP K H (.ref a) (.int i :: ks) u
  | dct {a : Addr} {es : List (L2.Key × V)} {z : String} {w u : V} {ks : List D} : H a = some (.dK es) → valV es (.inr (Str.ofString z)) = some w → AtP K H w ks u → AtP K H (.ref a) (.str z :: ks) u
  | fld {a C dx : Addr} {es : List (Str × V)} {c g : String} {x : D} {w u : V} {ks : List D} : H a = some (.ins C dx es) → ClsAt K c C → es.lookup (Str.ofString g) = some w → AtP K H w ks u → AtP K H (.ref a) (.ins c [(g, x)] :: ks) u
theorem dct_at {key : D} {ky : L2.Key} (hy : keyOf key = some ky) : ∀ {kvs : List (D × D)} {es : List (L2.Key × V)} {j : Nat}, kvs.map (fun p => keyOf p.1) = es.map (fun p => some p.1) → (kvs.findIdx? fun p => D.eqv p.1 key) = some j → ∃ p q, kvs[j]? = some p ∧ es[j]? = some q ∧ valV es ky = some q.2
  | [], es, j, _, e => by simp at e
  | p :: kvs, es, j, h, e => by
    cases es with
    | nil => simp at h
    | cons q es =>
      simp only [List.map_cons, List.cons.injEq] at h
      have ev := key_eqv h.1 hy
      rw [List.findIdx?_cons] at e
      by_cases hq : q.1 = ky
      · have e1 : D.eqv p.1 key = true := by rw [ev]; exact decide_eq_true hq
        rw [if_pos e1] at e
        cases e
        exact ⟨p, q, rfl, rfl, by simp [valV, List.find?, hq]⟩
      · have e1 : ¬ D.eqv p.1 key = true := by rw [ev]; simpa using hq
        rw [if_neg e1, Option.map_eq_some_iff] at e
        obtain ⟨j', e, rfl⟩ := e
        obtain ⟨p', q', a1, a2, a3⟩ := dct_at hy h.2 e
        refine ⟨p', q', by simpa using a1, by simpa using a2, ?_⟩
        rw [← a3]
        simp [valV, List.find?, hq]
/-- one of the items: it may be exchanged for its value -/
theorem Rps.split {k : Nat} : ∀ {xs : List D} {vs : List V} {G : List Addr} {j : Nat} {x : D}, Rps K H Dz k xs vs G → xs[j]? = some x →
    ∃ A L C w, G = A ++ L ++ C ∧ vs[j]? = some w ∧ Rp K H Dz k x w L ∧ ∀ (H' : Hp) (Dz' : Addr → Prop) (y : D) (L' : List Addr), (∀ a, Dz a → Dz' a) → (∀ a o, H a = some o → ¬ Mut (some o) → H' a = some o) → (∀ a o, H a = some o → Dz a → H' a = some o) →
      (∀ a o, H a = some o → a ∈ A ++ C → H' a = some o) → Rp K H' Dz' k y w L' → Rps K H' Dz' k (xs.set j y) vs (A ++ L' ++ C)
  | _, _, _, j, x, .nil, e => by simp at e
  | _, _, _, 0, x, .cons (F := L) (G := G) h r, e => by
    simp at e; subst e
    refine ⟨[], L, G, _, by simp, rfl, h, fun H' Dz' y L' h1 h2 h3 h4 p => ?_⟩
    have := Rps.cons p (r.stay h1 h2 h3 fun a o e m => h4 a o e (by simpa using m))
    simpa using this
  | _, _, _, j + 1, x, .cons (F := L0) (G := G) h r, e => by
    obtain ⟨A, L, C, w, rfl, e1, h1, hh⟩ := Rps.split (j := j) r (by simpa using e)
    refine ⟨L0 ++ A, L, C, w, by simp, by simpa using e1, h1, fun H' Dz' y L' g1 g2 g3 g4 p => ?_⟩
    have := Rps.cons (h.stay g1 g2 g3 fun a o e m => g4 a o e (by simp [m])) (hh H' Dz' y L' g1 g2 g3 (fun a o e m => g4 a o e (by simp at m ⊢; rcases m with m | m <;> simp [m])) p)
    simpa using this
theorem sub_ok {f : Nat → D → Option D} : ∀ {ks : List D} {k : Nat} {d : D} {v : V} {G : List Addr} {d' : D}, Rp K H Dz k d v G → G.Nodup → (∀ a ∈ G, ¬ Dz a) → updD k d ks f = some d' →
    ∃ k1 d1 d1' v1 G1, Rp K H Dz (k1 + 1) d1 v1 G1 ∧ (∀ a ∈ G1, a ∈ G) ∧ G1.Nodup ∧ f k1 d1 = some d1' ∧ AtP K H v ks v1 ∧
      ∀ (H' : Hp) (Dz' : Addr → Prop) (L' : List Addr), (∀ a, Dz a → Dz' a) → (∀ a o, H a = some o → ¬ Mut (some o) → H' a = some o) → (∀ a o, H a = some o → Dz a → H' a = some o) → (∀ a o, H a = some o → a ∈ G → a ∉ G1 → H' a = some o) → Rp K H' Dz' (k1 + 1) d1' v1 L' → L'.Nodup → (∀ a ∈ L', a ∈ G1 ∨ a ∉ G) →
        ∃ G', Rp K H' Dz' k d' v G' ∧ G'.Nodup ∧ ∀ a ∈ G', a ∈ G ∨ a ∈ L'
  | [], k, d, v, G, d', h, nd, dz, e => by
    cases k with
    | zero => simp only [updD] at e; cases e
    | succ k => exact ⟨k, d, d', v, G, h, fun _ m => m, nd, e, .nil, fun H' Dz' L' _ _ _ _ p n1 n2 => ⟨L', p, n1, fun a m => .inr m⟩⟩
  | key :: ks, k, d, v, G, d', h, nd, dz, e => by
    cases k with
    | zero => simp only [updD] at e; cases e
    | succ k =>
      have nmut : ∀ {G1 : List Addr} {k1 : Nat} {d1 : D} {v1 : V}, Rp K H Dz k1 d1 v1 G1 → ∀ a o, H a = some o → ¬ Mut (some o) → a ∉ G1 := fun r a o e n m => by
        have := r.mut a m
        rw [e] at this
        exact n this
      have fin : ∀ {A L C : List Addr} {L' : List Addr}, (A ++ L ++ C).Nodup → L'.Nodup → (∀ a ∈ L', a ∈ L ∨ a ∉ A ++ L ++ C) → (A ++ L' ++ C).Nodup := fun {A L C L'} n1 n2 n3 => by
        rw [List.nodup_append, List.nodup_append] at n1 ⊢
        obtain ⟨⟨a1, a2, a3⟩, a4, a5⟩ := n1
        refine ⟨⟨a1, n2, fun x hx y hy e => ?_⟩, a4, fun x hx y hy e => ?_⟩
        · subst e
          rcases n3 x hy with z | z
          · exact a3 x hx x z rfl
          · exact z (by simp [hx])
        · subst e
          rcases List.mem_append.mp hx with hx | hx
          · exact a5 x (by simp [hx]) x hy rfl
          · rcases n3 x hx with z | z
            · exact a5 x (by simp [z]) x hy rfl
            · exact z (by simp [hy])
      cases d with
      | lst xs =>
        cases key with
        | int i =>
          simp only [updD] at e
          rw [Option.bind_eq_some_iff] at e
          obtain ⟨j, ej, e⟩ := e
          rw [Option.bind_eq_some_iff] at e
          obtain ⟨x, ex, e⟩ := e
          rw [Option.map_eq_some_iff] at e
          obtain ⟨y, ey, rfl⟩ := e
          cases h with
          | @lo _ a vs _ G0 ha r =>
            obtain ⟨A, L, C, w, rfl, ew, rw', hh⟩ := r.split ex
            have nd0 := (List.nodup_cons.mp nd)
            have ndL : L.Nodup := by
              have := nd0.2
              rw [List.nodup_append, List.nodup_append] at this
              exact this.1.2.1
            obtain ⟨k1, d1, d1', v1, G1, q1, q2, q2', q3, q4, q5⟩ := sub_ok rw' ndL (fun b m => dz b (by simp [m])) ey
            refine ⟨k1, d1, d1', v1, G1, q1, fun b m => by simp [q2 b m], q2', q3, .cons (.inl (.of ha)) (by rw [← r.len]; exact ej) ew q4, fun H' Dz' L' g1 gn gz g2 g3 g4 g5 => ?_⟩
            have nL : ∀ b ∈ A ++ C, b ∉ G1 := fun b m m1 => by
              have := nd0.2
              rw [List.nodup_append, List.nodup_append] at this
              rcases List.mem_append.mp m with m | m
              · exact this.1.2.2 b m b (q2 b m1) rfl
              · exact this.2.2 b (by simp [q2 b m1]) b m rfl
            obtain ⟨G', p1, p2, p3⟩ := q5 H' Dz' L' g1 gn gz (fun b o e m => g2 b o e (by simp [m])) g3 g4 fun b m => (g5 b m).imp id fun z m1 => z (by simp [m1])
            have p4 : ∀ b ∈ G', b ∈ L ∨ b ∉ A ++ L ++ C := fun b m => by
              rcases p3 b m with z | z
              · exact .inl z
              · rcases g5 b z with z | z
                · exact .inl (q2 b z)
                · exact .inr fun m1 => z (by simp at m1 ⊢; grind)
            have rr := hh H' Dz' y G' g1 gn gz (fun b o e m => g2 b o e (by simp at m ⊢; grind) (nL b m)) p1
            have na : a ∉ G1 := fun m => nd0.1 (by simp [q2 a m])
            refine ⟨a :: (A ++ G' ++ C), .lo (g2 a _ ha (by simp) na) rr, List.nodup_cons.mpr ⟨fun m => ?_, fin nd0.2 p2 p4⟩, fun b m => ?_⟩
            · simp only [List.mem_append] at m
              rcases m with (m | m) | m
              · exact nd0.1 (by simp [m])
              · rcases p3 a m with z | z
                · exact nd0.1 (by simp [z])
                · rcases g5 a z with z | z
                  · exact na z
                  · exact z (by simp)
              · exact nd0.1 (by simp [m])
            · simp only [List.mem_cons, List.mem_append] at m ⊢
              rcases m with m | (m | m) | m
              · exact .inl (.inl m)
              · exact .inl (.inr (.inl (.inl m)))
              · rcases p3 b m with z | z
                · exact .inl (.inr (.inl (.inr z)))
                · exact .inr z
              · exact .inl (.inr (.inr m))
        | _ => simp only [updD] at e; cases e
      | tup xs =>
        cases key with
        | int i =>
          simp only [updD] at e
          rw [Option.bind_eq_some_iff] at e
          obtain ⟨j, ej, e⟩ := e
          rw [Option.bind_eq_some_iff] at e
          obtain ⟨x, ex, e⟩ := e
          rw [Option.map_eq_some_iff] at e
          obtain ⟨y, ey, rfl⟩ := e
          cases h with
          | @tup _ a vs _ G0 ha r =>
            have r : Rps K H Dz k xs vs G := r
            obtain ⟨A, L, C, w, rfl, ew, rw', hh⟩ := r.split ex
            have ndL : L.Nodup := by
              have := nd
              rw [List.nodup_append, List.nodup_append] at this
              exact this.1.2.1
            obtain ⟨k1, d1, d1', v1, G1, q1, q2, q2', q3, q4, q5⟩ := sub_ok rw' ndL (fun b m => dz b (by simp [m])) ey
            refine ⟨k1, d1, d1', v1, G1, q1, fun b m => by simp [q2 b m], q2', q3, .cons (.inr ha) (by rw [← r.len]; exact ej) ew q4, fun H' Dz' L' g1 gn gz g2 g3 g4 g5 => ?_⟩
            have nL : ∀ b ∈ A ++ C, b ∉ G1 := fun b m m1 => by
              have := nd
              rw [List.nodup_append, List.nodup_append] at this
              rcases List.mem_append.mp m with m | m
              · exact this.1.2.2 b m b (q2 b m1) rfl
              · exact this.2.2 b (by simp [q2 b m1]) b m rfl
            obtain ⟨G', p1, p2, p3⟩ := q5 H' Dz' L' g1 gn gz (fun b o e m => g2 b o e (by simp [m])) g3 g4 fun b m => (g5 b m).imp id fun z m1 => z (by simp [m1])
            have p4 : ∀ b ∈ G', b ∈ L ∨ b ∉ A ++ L ++ C := fun b m => by
              rcases p3 b m with z | z
              · exact .inl z
              · rcases g5 b z with z | z
                · exact .inl (q2 b z)
                · exact .inr z
            have rr := hh H' Dz' y G' g1 gn gz (fun b o e m => g2 b o e (by simp at m ⊢; grind) (nL b m)) p1
            refine ⟨A ++ G' ++ C, .tup (ha.stay gn) rr, fin nd p2 p4, fun b m => ?_⟩
            simp only [List.mem_append] at m ⊢
            rcases m with (m | m) | m
            · exact .inl (.inl (.inl m))
            · rcases p3 b m with z | z
              · exact .inl (.inl (.inr z))
              · exact .inr z
            · exact .inl (.inr m)
        | _ => simp only [updD] at e; cases e
      | dct kvs =>
        cases key with
        | str z =>
          simp only [updD] at e
          rw [Option.bind_eq_some_iff] at e
          obtain ⟨j, ej, e⟩ := e
          rw [Option.bind_eq_some_iff] at e
          obtain ⟨pp, ep, e⟩ := e
          rw [Option.map_eq_some_iff] at e
          obtain ⟨y, ey, rfl⟩ := e
          cases h with
          | @do_ _ a es _ G0 ha hkl r =>
            obtain ⟨p', q', b1, b2, b3⟩ := dct_at (key := .str z) (ky := .inr (Str.ofString z)) rfl hkl.1 ej
            rw [ep] at b1; cases b1
            have z3 : (kvs.map (·.2))[j]? = some pp.2 := by rw [List.getElem?_map, ep]; rfl
            have z4 : (es.map (·.2))[j]? = some q'.2 := by rw [List.getElem?_map, b2]; rfl
            obtain ⟨A, L, C', w, rfl, ew, rw', hh⟩ := r.split z3
            rw [z4] at ew; cases ew
            have nd0 := (List.nodup_cons.mp nd)
            have ndL : L.Nodup := by
              have := nd0.2
              rw [List.nodup_append, List.nodup_append] at this
              exact this.1.2.1
            obtain ⟨k1, d1, d1', v1, G1, q1, q2, q2', q3, q4, q5⟩ := sub_ok rw' ndL (fun b m => dz b (by simp [m])) ey
            refine ⟨k1, d1, d1', v1, G1, q1, fun b m => by simp [q2 b m], q2', q3, .dct ha b3 q4, fun H' Dz' L' g1 gn gz g2 g3 g4 g5 => ?_⟩
            have nL : ∀ b ∈ A ++ C', b ∉ G1 := fun b m m1 => by
              have := nd0.2
              rw [List.nodup_append, List.nodup_append] at this
              rcases List.mem_append.mp m with m | m
              · exact this.1.2.2 b m b (q2 b m1) rfl
              · exact this.2.2 b (by simp [q2 b m1]) b m rfl
            obtain ⟨G', p1, p2, p3⟩ := q5 H' Dz' L' g1 gn gz (fun b o e m => g2 b o e (by simp [m])) g3 g4 fun b m => (g5 b m).imp id fun z m1 => z (by simp [m1])
            have p4 : ∀ b ∈ G', b ∈ L ∨ b ∉ A ++ L ++ C' := fun b m => by
              rcases p3 b m with z | z
              · exact .inl z
              · rcases g5 b z with z | z
                · exact .inl (q2 b z)
                · exact .inr fun m1 => z (by simp at m1 ⊢; grind)
            have rr := hh H' Dz' y G' g1 gn gz (fun b o e m => g2 b o e (by simp at m ⊢; grind) (nL b m)) p1
            have na : a ∉ G1 := fun m => nd0.1 (by simp [q2 a m])
            have s1 : (kvs.set j (pp.1, y)).map (·.2) = (kvs.map (·.2)).set j y := by rw [List.map_set]
            rw [← s1] at rr
            have hj : j < kvs.length := (List.getElem?_eq_some_iff.mp ep).1
            have s2 : (kvs.set j (pp.1, y)).map (·.1) = kvs.map (·.1) := by
              rw [List.map_set]
              show (kvs.map (·.1)).set j pp.1 = _
              refine List.ext_getElem? fun m => ?_
              rw [List.getElem?_set]
              split
              · rename_i e
                subst e
                rw [List.getElem?_map, ep]
                simp [hj]
              · rfl
            refine ⟨a :: (A ++ G' ++ C'), .do_ (g2 a _ ha (by simp) na) (by
              refine ⟨?_, fun p m => ?_⟩
              · have e1 : (kvs.set j (pp.1, y)).map (fun p => keyOf p.1) = ((kvs.set j (pp.1, y)).map (·.1)).map keyOf := by rw [List.map_map]; rfl
                have e2 : kvs.map (fun p => keyOf p.1) = (kvs.map (·.1)).map keyOf := by rw [List.map_map]; rfl
                rw [e1, s2, ← e2]; exact hkl.1
              · have m1 : p.1 ∈ (kvs.set j (pp.1, y)).map (·.1) := List.mem_map.mpr ⟨p, m, rfl⟩
                rw [s2] at m1
                obtain ⟨p0, m0, e0⟩ := List.mem_map.mp m1
                rw [← e0]
                exact hkl.2 p0 m0) rr, List.nodup_cons.mpr ⟨fun m => ?_, fin nd0.2 p2 p4⟩, fun b m => ?_⟩
            · simp only [List.mem_append] at m
              rcases m with (m | m) | m
              · exact nd0.1 (by simp [m])
              · rcases p3 a m with z | z
                · exact nd0.1 (by simp [z])
                · rcases g5 a z with z | z
                  · exact na z
                  · exact z (by simp)
              · exact nd0.1 (by simp [m])
            · simp only [List.mem_cons, List.mem_append] at m ⊢
              rcases m with m | (m | m) | m
              · exact .inl (.inl m)
              · exact .inl (.inr (.inl (.inl m)))
              · rcases p3 b m with z | z
                · exact .inl (.inr (.inl (.inr z)))
                · exact .inr z
              · exact .inl (.inr (.inr m))
        | _ => simp only [updD] at e; cases e
      | ins c' fs =>
        cases key with
        | ins c kf =>
          match kf with
          | [] => simp only [updD] at e; cases e
          | _ :: _ :: _ => simp only [updD] at e; cases e
          | [(g, xx)] =>
          simp only [updD] at e
          rw [Option.bind_eq_some_iff] at e
          obtain ⟨x, ex, e⟩ := e
          rw [Option.map_eq_some_iff] at e
          obtain ⟨y, ey, rfl⟩ := e
          simp only [fldD] at ex
          split at ex
          case isFalse => cases ex
          rename_i ecc
          subst ecc
          cases h with
          | @io_ _ a C dx _ es _ G0 ha hcl hfl r =>
            rcases look_fld (f := g) hfl r with ⟨z1, _⟩ | ⟨j, d', v', z1, z2, z3, z4, z5, _⟩
            · rw [z1] at ex; cases ex
            rw [z1] at ex; cases ex
            obtain ⟨A, L, C', w, rfl, ew, rw', hh⟩ := r.split z3
            rw [z4] at ew; cases ew
            have nd0 := (List.nodup_cons.mp nd)
            have ndL : L.Nodup := by
              have := nd0.2
              rw [List.nodup_append, List.nodup_append] at this
              exact this.1.2.1
            obtain ⟨k1, d1, d1', v1, G1, q1, q2, q2', q3, q4, q5⟩ := sub_ok rw' ndL (fun b m => dz b (by simp [m])) ey
            refine ⟨k1, d1, d1', v1, G1, q1, fun b m => by simp [q2 b m], q2', q3, .fld ha hcl z2 q4, fun H' Dz' L' g1 gn gz g2 g3 g4 g5 => ?_⟩
            have nL : ∀ b ∈ A ++ C', b ∉ G1 := fun b m m1 => by
              have := nd0.2
              rw [List.nodup_append, List.nodup_append] at this
              rcases List.mem_append.mp m with m | m
              · exact this.1.2.2 b m b (q2 b m1) rfl
              · exact this.2.2 b (by simp [q2 b m1]) b m rfl
            obtain ⟨G', p1, p2, p3⟩ := q5 H' Dz' L' g1 gn gz (fun b o e m => g2 b o e (by simp [m])) g3 g4 fun b m => (g5 b m).imp id fun z m1 => z (by simp [m1])
            have p4 : ∀ b ∈ G', b ∈ L ∨ b ∉ A ++ L ++ C' := fun b m => by
              rcases p3 b m with z | z
              · exact .inl z
              · rcases g5 b z with z | z
                · exact .inl (q2 b z)
                · exact .inr fun m1 => z (by simp at m1 ⊢; grind)
            have rr := hh H' Dz' y G' g1 gn gz (fun b o e m => g2 b o e (by simp at m ⊢; grind) (nL b m)) p1
            have na : a ∉ G1 := fun m => nd0.1 (by simp [q2 a m])
            obtain ⟨s1, s2⟩ := z5 y
            rw [← s1] at rr
            refine ⟨a :: (A ++ G' ++ C'), .io_ (g2 a _ ha (by simp) na) hcl (by
              unfold FldL at hfl ⊢
              have e1 : (setFld fs g y).map (fun p => Str.ofString p.1) = ((setFld fs g y).map (·.1)).map Str.ofString := by rw [List.map_map]; rfl
              have e2 : fs.map (fun p => Str.ofString p.1) = (fs.map (·.1)).map Str.ofString := by rw [List.map_map]; rfl
              rw [e1, s2, ← e2]; exact hfl) rr, List.nodup_cons.mpr ⟨fun m => ?_, fin nd0.2 p2 p4⟩, fun b m => ?_⟩
            · simp only [List.mem_append] at m
              rcases m with (m | m) | m
              · exact nd0.1 (by simp [m])
              · rcases p3 a m with z | z
                · exact nd0.1 (by simp [z])
                · rcases g5 a z with z | z
                  · exact na z
                  · exact z (by simp)
              · exact nd0.1 (by simp [m])
            · simp only [List.mem_cons, List.mem_append] at m ⊢
              rcases m with m | (m | m) | m
              · exact .inl (.inl m)
              · exact .inl (.inr (.inl (.inl m)))
              · rcases p3 b m with z | z
                · exact .inl (.inr (.inl (.inr z)))
                · exact .inr z
              · exact .inl (.inr (.inr m))
        | _ => simp only [updD] at e; cases e
      | _ => simp only [updD] at e; cases e
/-- an object within a slot is written -/
theorem Rel.poke {N : List Addr} {i k : Nat} {d' : D} {v : V} {p : Addr} {u o : HO} {G' : List Addr} (R : Rel K B Dz F s σ H) (hi : i < s.length) (hv : σ[i]? = some (some v)) (hp : p ∈ F i) (hN : ∀ a ∈ N, (∀ j, a ∉ F j) ∧ H a ≠ none)
    (ho : H p = some u) (hu : Mut (some u)) (rp : Rp K (upd H p o) (Or Dz N) k d' v G') (nd : G'.Nodup) (hG : ∀ a ∈ G', a ∈ F i ∨ (¬ Or Dz N a ∧ ¬ B a ∧ ∀ j, a ∉ F j)) :
    Rel K B (Or Dz N) (fset F i G') (s.set i (.ow k d')) σ (upd H p o) := by
  have hz : ∀ a, Or Dz N a → a ≠ p := fun a z e => by
    subst e
    rcases z with z | z
    · exact R.dz i a hp z
    · exact (hN a z).1 i hp
  have hb : ∀ a, B a → a ≠ p := fun a z e => by subst e; exact R.bz i a hp z
  have hf : ∀ {j : Nat}, j ≠ i → ∀ a ∈ F j, a ≠ p := fun {j} h a z e => by subst e; exact h (R.dj j i a z hp)
  have st : ∀ {k : Nat} {d : D} {v : V} {G : List Addr}, Rp K H Dz k d v G → p ∉ G → Rp K (upd H p o) (Or Dz N) k d v G := fun {k d v G} r ng => r.stay (fun _ z => .inl z) (fun a o e n => by rw [upd_ne (mut_ne ho hu e n)]; exact e) (fun a o e z => by rw [upd_ne (hz a (.inl z))]; exact e)
    fun a o e m => by rw [upd_ne (show a ≠ p from fun z => ng (by rw [← z]; exact m))]; exact e
  refine ⟨by rw [List.length_set]; exact R.len, fun j x e => ?_, fun j => ?_, fun j l a m1 m2 => ?_, fun j a m => ?_, fun j hj => ?_, fun j a m => ?_, fun a z => ?_, fun j a m => ?_, fun a z => ?_⟩
  · by_cases hij : i = j
    · subst hij
      rw [List.getElem?_set_self hi] at e
      cases e
      exact ⟨v, hv, by rw [fset_same]; exact rp⟩
    · rw [List.getElem?_set_ne hij] at e
      have h := R.sl j x e
      have hj : j ≠ i := fun z => hij z.symm
      cases x with
      | no => show fset F i G' j = []; rw [fset_ne hj]; exact h
      | bo k d =>
        obtain ⟨h1, w, G, h2, h3, h4⟩ := h
        exact ⟨by rw [fset_ne hj]; exact h1, w, G, h2, st h3 fun z => hb p (h4 p z) rfl, h4⟩
      | ow k d =>
        obtain ⟨w, h2, h3⟩ := h
        exact ⟨w, h2, by rw [fset_ne hj]; exact st h3 fun z => hf hj p z rfl⟩
  · by_cases h : j = i
    · subst h; rw [fset_same]; exact nd
    · rw [fset_ne h]; exact R.nd j
  · rcases fset_in m1 with ⟨e1, z1⟩ | ⟨h1, z1⟩
    · rcases fset_in m2 with ⟨e2, z2⟩ | ⟨h2, z2⟩
      · rw [e1, e2]
      · rcases hG a z1 with z | z
        · exact absurd (R.dj l i a z2 z) h2
        · exact absurd z2 (z.2.2 l)
    · rcases fset_in m2 with ⟨e2, z2⟩ | ⟨h2, z2⟩
      · rcases hG a z2 with z | z
        · exact absurd (R.dj j i a z1 z) h1
        · exact absurd z1 (z.2.2 j)
      · exact R.dj j l a z1 z2
  · rcases fset_in m with ⟨_, z1⟩ | ⟨_, z1⟩
    · rcases hG a z1 with z | z
      · intro zz
        rcases zz with zz | zz
        · exact R.dz i a z zz
        · exact (hN a zz).1 i z
      · exact z.1
    · intro zz
      rcases zz with zz | zz
      · exact R.dz j a z1 zz
      · exact (hN a zz).1 j z1
  · rw [List.length_set] at hj
    have : j ≠ i := by omega
    rw [fset_ne this]; exact R.out j hj
  · rcases fset_in m with ⟨_, z1⟩ | ⟨h1, z1⟩
    · exact rp.mut a z1
    · rw [upd_ne (hf h1 a z1)]; exact R.mt j a z1
  · rw [upd_ne (hz a z)]
    rcases z with z | z
    · exact R.tk a z
    · exact (hN a z).2
  · rcases fset_in m with ⟨_, z1⟩ | ⟨_, z1⟩
    · rcases hG a z1 with z | z
      · exact R.bz i a z
      · exact z.2.1
    · exact R.bz j a z1
  · rw [upd_ne (hb a z)]; exact R.bt a z
theorem Tr.poke {N : List Addr} {i : Nat} {p : Addr} {o : HO} {G' : List Addr} (t : Tr M Dz F H Dz' F' H') (hi : i ∈ M) (hp : H p = none ∨ ∃ j ∈ M, p ∈ F j) (hm : Mut (H' p)) (hN : ∀ a ∈ N, H a = none ∨ ∃ j ∈ M, a ∈ F j) (hG : ∀ a ∈ G', H a = none ∨ ∃ j ∈ M, a ∈ F j) :
    Tr M Dz F H (Or Dz' N) (fset F' i G') (upd H' p o) := by
  refine ⟨fun a z => .inl (t.dz a z), fun a z => z.elim (t.new a) fun z => .inr (hN a z), fun a o e k => ?_, fun a o e n => ?_, fun j hj => ?_, fun j a hj m => ?_⟩
  · have ne : a ≠ p := fun z => by
      subst z
      rcases hp with z | ⟨j, hj, z⟩
      · rw [z] at e; cases e
      · exact k j hj z
    rw [upd_ne ne]; exact t.keep a o e k
  · have e' := t.nm a o e n
    have ne : a ≠ p := fun z => by
      subst z
      rw [e'] at hm
      exact n hm
    rw [upd_ne ne]; exact e'
  · rw [fset_ne fun z => hj (by rw [z]; exact hi)]; exact t.fs j hj
  · rcases fset_in m with ⟨_, z⟩ | ⟨_, z⟩
    · exact hG a z
    · exact t.fn j a hj z
theorem Tr.setF {i : Nat} {G' : List Addr} (t : Tr M Dz F H Dz' F' H') (hi : i ∈ M) (hG : ∀ a ∈ G', H a = none ∨ ∃ j ∈ M, a ∈ F j) : Tr M Dz F H Dz' (fset F' i G') H' := by
  refine ⟨t.dz, t.new, t.keep, t.nm, fun j hj => ?_, fun j a hj m => ?_⟩
  · rw [fset_ne fun z => hj (by rw [z]; exact hi)]; exact t.fs j hj
  · rcases fset_in m with ⟨_, z⟩ | ⟨_, z⟩
    · exact hG a z
    · exact t.fn j a hj z
end
end Ti
end

section
/-! statements -/
namespace Ti
open PySem PySem.Spec PyProof.Rows L2
variable [PWc]

def SigI (io : List Nat) (σ σ' : L2.St) : Prop := σ'.length = σ.length ∧ ∀ i ∈ io, σ'[i]? = σ[i]?
theorem SigI.refl (io : List Nat) (σ : L2.St) : SigI io σ σ := ⟨rfl, fun _ _ => rfl⟩
theorem SigI.trans {io : List Nat} {σ σ1 σ2 : L2.St} (h : SigI io σ σ1) (k : SigI io σ1 σ2) : SigI io σ σ2 := ⟨k.1.trans h.1, fun i hi => (k.2 i hi).trans (h.2 i hi)⟩
/-- what is wanted behind -/
def Fine (K : PySem.W.Frag) (io M : List Nat) (B Dz : Addr → Prop) (F : Nat → List Addr) (σ : L2.St) (H : Hp) (E : Ends) : Out → Prop
  | .nx s' => ∀ (Dz' : Addr → Prop) (F' : Nat → List Addr) (H' : Hp) (σ' : L2.St), Tr M Dz F H Dz' F' H' → Rel K B Dz' F' s' σ' H' → SigI io σ σ' → E.nx σ' H'
  | .brk s' => ∀ (Dz' : Addr → Prop) (F' : Nat → List Addr) (H' : Hp) (σ' : L2.St), Tr M Dz F H Dz' F' H' → Rel K B Dz' F' s' σ' H' → SigI io σ σ' → E.bk σ' H'
  | .ct s' => ∀ (Dz' : Addr → Prop) (F' : Nat → List Addr) (H' : Hp) (σ' : L2.St), Tr M Dz F H Dz' F' H' → Rel K B Dz' F' s' σ' H' → SigI io σ σ' → E.ct σ' H'
  | .ret k d s' => ∀ (Dz' : Addr → Prop) (F' : Nat → List Addr) (H' : Hp) (σ' : L2.St) (v : V) (G : List Addr), Tr M Dz F H Dz' F' H' → Rel K B Dz' F' s' σ' H' → SigI io σ σ' → RvOk K B H' Dz' F' (.ow k d) v G →
      (∀ a ∈ G, H a = none ∨ ∃ i ∈ M, a ∈ F i) → E.rt v H'
  | .no => False
variable {cf : Nat → List Arg → Rs} {io : List Nat} {n : Nat} {X : Cx}
section
variable {K : PySem.W.Frag} {B Dz Dz' Dz1 Dz2 : Addr → Prop} {F F' F1 F2 : Nat → List Addr} {H H' H1 H2 : Hp} {M M1 M2 : List Nat} {s s' s1 s2 : Sl} {σ σ1 : L2.St} {En : Ends} {o : Out}
theorem Fine.later (c : Fine K io (M1 ++ M2) B Dz F σ H En o) (t : Tr M1 Dz F H Dz1 F1 H1) (g : SigI io σ σ1) : Fine K io M2 B Dz1 F1 σ1 H1 En o := by
  cases o with
  | nx s' => exact fun Dz' F' H' σ' u R g' => c Dz' F' H' σ' (t.trans u) R (g.trans g')
  | brk s' => exact fun Dz' F' H' σ' u R g' => c Dz' F' H' σ' (t.trans u) R (g.trans g')
  | ct s' => exact fun Dz' F' H' σ' u R g' => c Dz' F' H' σ' (t.trans u) R (g.trans g')
  | ret k d s' => exact fun Dz' F' H' σ' v G u R g' rv fr => c Dz' F' H' σ' v G (t.trans u) R (g.trans g') rv fun a m => t.fresh (fr a m)
  | no => exact c
theorem Fine.mono (c : Fine K io M B Dz F σ H En o) (h : ∀ i ∈ M1, i ∈ M) : Fine K io M1 B Dz F σ H En o := by
  cases o with
  | nx s' => exact fun Dz' F' H' σ' u R g' => c Dz' F' H' σ' (u.mono h) R g'
  | brk s' => exact fun Dz' F' H' σ' u R g' => c Dz' F' H' σ' (u.mono h) R g'
  | ct s' => exact fun Dz' F' H' σ' u R g' => c Dz' F' H' σ' (u.mono h) R g'
  | ret k d s' => exact fun Dz' F' H' σ' v G u R g' rv fr => c Dz' F' H' σ' v G (u.mono h) R g' rv fun a m => (fr a m).imp id fun ⟨i, hi, z⟩ => ⟨i, h i hi, z⟩
  | no => exact c
/-- other ends -/
theorem Fine.imp {En' : Ends} (c : Fine K io M B Dz F σ H En o) (h1 : ∀ σ H, En.nx σ H → En'.nx σ H) (h2 : ∀ σ H, En.bk σ H → En'.bk σ H) (h3 : ∀ σ H, En.ct σ H → En'.ct σ H) (h4 : ∀ v H, En.rt v H → En'.rt v H) : Fine K io M B Dz F σ H En' o := by
  cases o with
  | nx s' => exact fun Dz' F' H' σ' u R g' => h1 _ _ (c Dz' F' H' σ' u R g')
  | brk s' => exact fun Dz' F' H' σ' u R g' => h2 _ _ (c Dz' F' H' σ' u R g')
  | ct s' => exact fun Dz' F' H' σ' u R g' => h3 _ _ (c Dz' F' H' σ' u R g')
  | ret k d s' => exact fun Dz' F' H' σ' v G u R g' rv fr => h4 _ _ (c Dz' F' H' σ' v G u R g' rv fr)
  | no => exact c
end
def tS (cf : Nat → List Arg → Rs) (io : List Nat) (n : Nat) (K : PySem.W.Frag) (st : S) : TS := fun E σ H => ∃ (B Dz : Addr → Prop) (F : Nat → List Addr) (s : Sl), Rel K B Dz F s σ H ∧ Fine K io (S.muts st) B Dz F σ H E (evS cf io n st s)
def tSs (cf : Nat → List Arg → Rs) (io : List Nat) (n : Nat) (K : PySem.W.Frag) (st : List S) : TS := fun E σ H => ∃ (B Dz : Addr → Prop) (F : Nat → List Addr) (s : Sl), Rel K B Dz F s σ H ∧ Fine K io (S.mutss st) B Dz F σ H E (evSs cf io n st s)
theorem PS.imp {X : Cx} {e : Stmt} {t u : TS} (h : PS X e u) (i : ∀ E σ H, t E σ H → u E σ H) : PS X e t := ⟨fun pins s σ H E I q => h.run pins s σ H E I (i E σ H q)⟩
theorem PSs.imp {X : Cx} {e : List Stmt} {t u : TS} (h : PSs X e u) (i : ∀ E σ H, t E σ H → u E σ H) : PSs X e t := ⟨fun pins s σ H E I q => h.run pins s σ H E I (i E σ H q)⟩
theorem good_ss_nil : PSs X [] (tSs cf io n X.K []) := by
  refine PSs.imp pss_nil ?_
  rintro E σ H ⟨B, Dz, F, s, R, c⟩
  rw [evSs] at c
  exact c Dz F H σ (Tr.refl _) R (SigI.refl _ _)
theorem good_ss_cons {x : S} {xs : List S} {px : Stmt} {pxs : List Stmt} (h : PS X px (tS cf io n X.K x)) (hr : PSs X pxs (tSs cf io n X.K xs)) : PSs X (px :: pxs) (tSs cf io n X.K (x :: xs)) := by
  refine PSs.imp (pss_cons h hr) ?_
  rintro E σ H ⟨B, Dz, F, s, R, c⟩
  rw [evSs] at c
  refine ⟨B, Dz, F, s, R, ?_⟩
  have mm : S.mutss (x :: xs) = S.muts x ++ S.mutss xs := rfl
  rw [mm] at c
  cases e : evS cf io n x s with
  | nx s1 =>
    rw [e] at c
    exact fun Dz' F' H' σ' t R' g => ⟨B, Dz', F', s1, R', c.later t g⟩
  | brk s1 => rw [e] at c; exact c.mono fun i hi => by simp [hi]
  | ct s1 => rw [e] at c; exact c.mono fun i hi => by simp [hi]
  | ret k d s1 => rw [e] at c; exact c.mono fun i hi => by simp [hi]
  | no => rw [e] at c; exact c
theorem good_ss_one {x : S} {px : Stmt} (h : PS X px (tS cf io n X.K x)) : PSs X [px] (tSs cf io n X.K [x]) := good_ss_cons h good_ss_nil

/-! ### plain statements -/
theorem good_pass {pos : Pos} : PS X (.Pass pos) (tS cf io n X.K .pass) := by
  refine PS.imp ps_pass ?_
  rintro E σ H ⟨B, Dz, F, s, R, c⟩
  rw [evS] at c
  exact c Dz F H σ (Tr.refl _) R (SigI.refl _ _)
theorem good_doc {x : Str} {j : Nat} {p pos : Pos} : PS X (.Expr (.Constant (.str x) j p) pos) (tS cf io n X.K .pass) := by
  refine PS.imp ps_doc ?_
  rintro E σ H ⟨B, Dz, F, s, R, c⟩
  rw [evS] at c
  exact c Dz F H σ (Tr.refl _) R (SigI.refl _ _)
theorem good_brk {pos : Pos} : PS X (.Break pos) (tS cf io n X.K .brk) := by
  refine PS.imp ps_break ?_
  rintro E σ H ⟨B, Dz, F, s, R, c⟩
  rw [evS] at c
  exact c Dz F H σ (Tr.refl _) R (SigI.refl _ _)
theorem good_ct {pos : Pos} : PS X (.Continue pos) (tS cf io n X.K .ct) := by
  refine PS.imp ps_continue ?_
  rintro E σ H ⟨B, Dz, F, s, R, c⟩
  rw [evS] at c
  exact c Dz F H σ (Tr.refl _) R (SigI.refl _ _)
theorem good_never {st : Stmt} : PS X st (tS cf io n X.K .never) := by
  refine PS.imp ps_never ?_
  rintro E σ H ⟨B, Dz, F, s, R, c⟩
  rw [evS] at c
  exact c
theorem good_retN {pos : Pos} : PS X (.Return none pos) (tS cf io n X.K .retN) := by
  refine PS.imp ps_retN ?_
  rintro E σ H ⟨B, Dz, F, s, R, c⟩
  rw [evS] at c
  exact c Dz F H σ .non [] (Tr.refl _) R (SigI.refl _ _) ⟨.non, .nil, fun _ m => by cases m⟩ fun _ m => by cases m
theorem good_ret {e : E} {pe : Expr} {pos : Pos} (h : Good cf io X e pe) : PS X (.Return (some pe) pos) (tS cf io n X.K (.ret e)) := by
  refine PS.imp (ps_ret h.val) ?_
  rintro E σ H ⟨B, Dz, F, s, R, c⟩
  rw [evS] at c
  split at c
  · rename_i r s1 e1
    refine tE.next cf io R e1 fun Dz1 F1 H1 v G t1 R1 o1 g1 => ?_
    cases r with
    | ow k d => exact c Dz1 F1 H1 σ v G t1 R1 (SigI.refl _ _) o1 g1
    | bo src k d => exact c.elim
  · exact c.elim
theorem good_ex {e : E} {pe : Expr} {pos : Pos} (h : Good cf io X e pe) (hs : swapsWith pe none pos.line X.env = pure false) : PS X (.Expr pe pos) (tS cf io n X.K (.ex e)) := by
  refine PS.imp (ps_expr h.val hs) ?_
  rintro E σ H ⟨B, Dz, F, s, R, c⟩
  rw [evS] at c
  split at c
  · rename_i r s1 e1
    exact tE.next cf io R e1 fun Dz1 F1 H1 v G t1 R1 o1 g1 => c Dz1 F1 H1 σ t1 R1 (SigI.refl _ _)
  · exact c.elim
theorem good_ifs {ce : E} {a b : List S} {pc : Expr} {pa pb : List Stmt} {pos : Pos} (hc : Good cf io X ce pc) (ha : PSs X pa (tSs cf io n X.K a)) (hb : PSs X pb (tSs cf io n X.K b)) : PS X (.If pc pa pb pos) (tS cf io n X.K (.ite ce a b)) := by
  refine PS.imp (ps_if hc.tst ha hb) ?_
  rintro E σ H ⟨B, Dz, F, s, R, c⟩
  rw [evS] at c
  split at c
  · rename_i r s1 e1
    refine tE.next cf io R e1 fun Dz1 F1 H1 v G t1 R1 o1 g1 => ?_
    have mm : S.muts (.ite ce a b) = ce.muts ++ (S.mutss a ++ S.mutss b) := by simp [S.muts]
    rw [mm] at c
    split at c
    · rename_i ed
      exact ⟨true, o1.bl ed, B, Dz1, F1, s1, R1, (c.later t1 (SigI.refl _ _)).mono fun i hi => by simp [hi]⟩
    · rename_i ed
      exact ⟨false, o1.bl ed, B, Dz1, F1, s1, R1, (c.later t1 (SigI.refl _ _)).mono fun i hi => by simp [hi]⟩
    · exact c.elim
  · exact c.elim
/-! ### a name is stored -/
theorem asg_key {i k : Nat} {e : E} : ∀ En σ H, tS cf io n X.K (.asg i k e) En σ H → tAsg (tE cf io X.K e) (gName i) En σ H := by
  rintro En σ H ⟨B, Dz, F, s, R, c⟩
  rw [evS] at c
  split at c
  case h_2 => exact c.elim
  rename_i r s1 e1
  split at c
  case isTrue => exact c.elim
  rename_i hio
  rw [not_or] at hio
  have hi : i < s1.length := by omega
  refine tE.next cf io R e1 fun Dz1 F1 H1 v G t1 R1 o1 g1 => ?_
  have sg : SigI io σ (σ.set i (some v)) := ⟨by simp, fun j hj => List.getElem?_set_ne fun z => hio.1 (by subst z; simpa using hj)⟩
  have hsv : (σ.set i (some v))[i]? = some (some v) := List.getElem?_set_self (by rw [← R1.len]; exact hi)
  have t1' : Tr (i :: E.muts e) Dz F H Dz1 F1 H1 := t1.mono fun j hj => by simp [hj]
  split at c
  · rename_i k0 d0
    split at c
    case h_2 => exact c.elim
    rename_i d ed
    obtain ⟨G', N, f1, f2, f3, f4⟩ := o1.fit ed
    have og := o1.out
    have Rg := R1.give (N := N) fun a m => ⟨(og.2 a (f3.subset m)).2.2.1, tracked (og.2 a (f3.subset m)).2.2.2⟩
    have gG : ∀ a ∈ G', H a = none ∨ ∃ j ∈ i :: E.muts e, a ∈ F j := fun a m => (g1 a (f2.subset m)).imp id fun ⟨j, hj, z⟩ => ⟨j, by simp [hj], z⟩
    have gN : ∀ a ∈ N, H a = none ∨ ∃ j ∈ i :: E.muts e, a ∈ F j := fun a m => (g1 a (f3.subset m)).imp id fun ⟨j, hj, z⟩ => ⟨j, by simp [hj], z⟩
    refine c (Or Dz1 N) (fset F1 i G') H1 _ ((Tr.give gN t1').setF (by simp) gG) (Rg.put hi (by simp) (fun j hj => List.getElem?_set_ne (Ne.symm hj)) ?_ (og.1.sublist f2) fun a m => ?_) sg
    · by_cases hk : k = 0
      · subst hk
        rw [if_pos rfl]
        obtain rfl := f1.nil0
        exact ⟨fset_same, v, [], hsv, f1, fun _ m => by cases m⟩
      · rw [if_neg hk]
        exact ⟨v, hsv, by rw [fset_same]; exact f1⟩
    · have q := og.2 a (f2.subset m)
      refine ⟨fun z => ?_, q.2.1, fun j _ => q.2.2.1 j, q.2.2.2⟩
      rcases z with z | z
      · exact q.1 z
      · exact f4 a m z
  · rename_i j d0
    split at c
    case isFalse => exact c.elim
    obtain ⟨rfl, G', h1, h2⟩ := o1
    exact c Dz1 (fset F1 i []) H1 _ (t1'.setF (by simp) fun _ m => by cases m) (R1.put hi (by simp) (fun j hj => List.getElem?_set_ne (Ne.symm hj)) ⟨fset_same, v, G', hsv, h1, fun a m => (h2 a m).resolve_right fun ⟨j, hj, _⟩ => by cases hj⟩ .nil fun _ m => by cases m) sg
  · exact c.elim
theorem good_asg {i k : Nat} {e : E} {pe : Expr} {x : Str} {pos p' : Pos} (hN : X.N.Nodup) (hi : X.N[i]? = some x) (hx : Loc X.env.scope x) (hf : X.fn x = true ∨ X.env.scope.names.lookup x = some .local) (h : Good cf io X e pe) (hs : swapsWith pe (some (.Name x p')) pos.line X.env = pure false) :
    PS X (.Assign [.Name x p'] pe pos) (tS cf io n X.K (.asg i k e)) := PS.imp (ps_set hN hi hx h.val hs hf) asg_key
theorem good_unp {t : Tg} {e : E} {pe pt : Expr} {pos : Pos} (h : Good cf io X e pe) (hg : PG X pt (gT X.K t)) (hs : swapsWithSole [pt] pe pos.line X.env = pure false) (hw : swappedStores [pt] pe X.env = pure none) (hn : notStar pt = true) :
    PS X (.Assign [pt] pe pos) (tS cf io n X.K (.unp t e)) := by
  refine PS.imp (ps_asg h.val hg hs hw (by rw [ass_cons hn]; rfl)) ?_
  rintro En σ H ⟨B, Dz, F, s, R, c⟩
  rw [evS] at c
  split at c
  case h_2 => exact c.elim
  rename_i r s1 e1
  split at c
  case isFalse => exact c.elim
  rename_i hok
  split at c
  case h_2 => exact c.elim
  rename_i d ed
  split at c
  case h_2 => exact c.elim
  rename_i s2 ep
  refine tE.next cf io R e1 fun Dz1 F1 H1 v G t1 R1 o1 g1 => ?_
  obtain ⟨G', N, f1, f2, f3, f4⟩ := o1.fit ed
  obtain rfl := f1.nil0
  have og := o1.out
  have Rg := R1.give (N := N) fun a m => ⟨(og.2 a (f3.subset m)).2.2.1, tracked (og.2 a (f3.subset m)).2.2.2⟩
  refine ⟨B, Or Dz1 N, F1, s1, d, s2, Rg, f1, ep, fun σ' F' t2 R2 sg => ?_⟩
  have tt : Tr (E.muts e) Dz F H (Or Dz1 N) F1 H1 := Tr.give (fun a m => g1 a (f3.subset m)) t1
  refine c _ F' H1 σ' ((tt.trans t2).mono fun j hj => by simp [S.muts] at hj ⊢; exact hj.symm) R2 ⟨sg.1, fun j hj => sg.2 j fun z => ?_⟩
  unfold okTg at hok
  have hcl : clash t.slots io = false := by simpa using hok
  exact clash_not hcl z hj

/-! ### loops -/
/-- the items that come, at any time: IR says what they are -/
def JxG (IR : Hp → (Addr → Prop) → D → V → Prop) (J : It) (ds : List D) (H : Hp) (Dz : Addr → Prop) : Prop :=
  ∀ i, (i < ds.length → J.go i H ∧ ∀ x H', J.yld i H x H' → Same H H' ∧ ∃ y, ds[i]? = some y ∧ IR H' Dz y x) ∧ (ds.length ≤ i → J.stop i H)
def tIG (cf : Nat → List Arg → Rs) (io : List Nat) (K : PySem.W.Frag) (IR : Hp → (Addr → Prop) → D → V → Prop) (e : E) (ms : List Nat) : TI := fun σ H R => ∃ (B Dz : Addr → Prop) (F : Nat → List Addr) (s : Sl), Rel K B Dz F s σ H ∧ ∃ r s' ds, evE cf io e s = .ok r s' ∧ r.walk ms (itemsOf r.d) = some ds ∧
  ∀ (Dz' : Addr → Prop) (F' : Nat → List Addr) (H' : Hp) (J : It), Tr (E.muts e) Dz F H Dz' F' H' → Rel K B Dz' F' s' σ H' →
    (∀ (Dz2 : Addr → Prop) (F2 : Nat → List Addr) (H2 : Hp), Tr ms Dz' F' H' Dz2 F2 H2 → JxG IR J ds H2 Dz2) → R J H'
def gTG (K : PySem.W.Frag) (IR : Hp → (Addr → Prop) → D → V → Prop) (t : Tg) : TG := fun v σ H Q => ∃ (B Dz : Addr → Prop) (F : Nat → List Addr) (s : Sl) (d : D) (s' : Sl), Rel K B Dz F s σ H ∧ IR H Dz d v ∧ Tg.put t d s = some s' ∧
  ∀ (σ' : L2.St) (F' : Nat → List Addr), Tr t.slots Dz F H Dz F' H → Rel K B Dz F' s' σ' H → SigE t.slots σ σ' → Q σ' H
def IR0 (K : PySem.W.Frag) : Hp → (Addr → Prop) → D → V → Prop := fun H Dz d v => Rp K H Dz 0 d v []
theorem tI_G {cf : Nat → List Arg → Rs} {io : List Nat} {X : Cx} {tg iter : Expr} {e : E} {ms : List Nat} (h : PI X tg iter (tI cf io X.K e ms)) : PI X tg iter (tIG cf io X.K (IR0 X.K) e ms) := by
  refine ⟨fun pins s0 σ H R0 I hh => h.run pins s0 σ H R0 I ?_⟩
  obtain ⟨B, Dz, F, s, R, r, s', ds, e1, hw, c⟩ := hh
  refine ⟨B, Dz, F, s, R, r, s', ds, e1, hw, fun Dz1 F1 H1 J t1 R1 hJ => c Dz1 F1 H1 J t1 R1 fun Dz2 F2 H2 t2 i => ?_⟩
  have j := hJ Dz2 F2 H2 t2 i
  refine ⟨fun hi => ⟨(j.1 hi).1, fun x H' hy => ?_⟩, j.2⟩
  obtain ⟨rfl, y, h1, h2⟩ := (j.1 hi).2 x H' hy
  exact ⟨Same.refl _, y, h1, h2⟩
theorem good_forG {IR : Hp → (Addr → Prop) → D → V → Prop} {t : Tg} {it : E} {b : List S} {tg iter : Expr} {pb : List Stmt} {pos : Pos} (hp : PassesOwn (model X.prog X.w) X.A X.env X.xe) (hc : X.calm = true) (hi : PI X tg iter (tIG cf io X.K IR it (t.slots ++ S.mutss b))) (hg : PG X tg (gTG X.K IR t)) (hb : PSs X pb (tSs cf io n X.K b))
    (hs : ∀ x, foldedSetIterable iter X.env x = pure x) : PS X (.For tg iter pb [] pos) (tS cf io n X.K (.for_ t it b)) := by
  refine PS.imp (ps_for hp hc hi hg hb hs) ?_
  rintro En σ H ⟨B, Dz, F, s, R, c⟩
  rw [evS] at c
  split at c
  case h_2 => exact c.elim
  rename_i r s1 e1
  split at c
  case isFalse => exact c.elim
  rename_i hok
  split at c
  case h_2 => exact c.elim
  rename_i ds hw
  refine ⟨B, Dz, F, s, R, r, s1, ds, e1, hw, fun Dz1 F1 H1 J t1 R1 hJ => ?_⟩
  have mm : S.muts (.for_ t it b) = t.slots ++ E.muts it ++ S.mutss b := rfl
  rw [mm] at c
  have c1 := (c.mono (M1 := E.muts it ++ (t.slots ++ S.mutss b)) fun i hi => by grind).later t1 (SigI.refl io σ)
  refine ⟨fun i m σi Hi => m = ds.length - i ∧ i ≤ ds.length ∧ ∃ (Dzi : Addr → Prop) (Fi : Nat → List Addr) (si : Sl), Rel X.K B Dzi Fi si σi Hi ∧ Tr (t.slots ++ S.mutss b) Dz1 F1 H1 Dzi Fi Hi ∧ SigI io σ σi ∧
    Fine X.K io (t.slots ++ S.mutss b) B Dzi Fi σi Hi En (forGo (fun x s2 => match Tg.put t x s2 with
          | some s3 => evSs cf io n b s3
          | none => .no) (ds.drop i) si), ⟨ds.length, by omega, by omega, Dz1, F1, s1, R1, Tr.refl _, SigI.refl _ _, c1⟩, ?_⟩
  rintro i m σi Hi ⟨rfl, hi, Dzi, Fi, si, Ri, ti, gi, ci⟩
  have jx := hJ Dzi Fi Hi ti i
  by_cases hlt : i < ds.length
  · refine .inr ⟨(jx.1 hlt).1, fun σ' H' => ∃ m', m' < ds.length - i ∧ (m' = ds.length - (i + 1) ∧ i + 1 ≤ ds.length ∧ ∃ (Dzi : Addr → Prop) (Fi : Nat → List Addr) (si : Sl), Rel X.K B Dzi Fi si σ' H' ∧ Tr (t.slots ++ S.mutss b) Dz1 F1 H1 Dzi Fi H' ∧ SigI io σ σ' ∧
      Fine X.K io (t.slots ++ S.mutss b) B Dzi Fi σ' H' En (forGo (fun x s2 => match Tg.put t x s2 with
            | some s3 => evSs cf io n b s3
            | none => .no) (ds.drop (i + 1)) si)), fun σ' H' h => h, fun x H' hyl => ?_⟩
    obtain ⟨sm, y, hy1, hy2⟩ := (jx.1 hlt).2 x H' hyl
    have tg0 : Tr [] Dzi Fi Hi Dzi Fi H' := Tr.grow sm (fun _ z => z) (fun _ z => .inl z)
    have Ri := Ri.grow sm (fun _ z => z) (fun _ z => .inl z) fun a z => by
      cases q : Hi a with
      | none => exact absurd q (Ri.tk a z)
      | some o => rw [sm a o q]; exact fun z => nomatch z
    have ti := (ti.trans tg0).mono (M1 := t.slots ++ S.mutss b) fun i hi => by simpa using hi
    have ci := (ci.mono (M1 := [] ++ (t.slots ++ S.mutss b)) fun j hj => by simpa using hj).later tg0 (SigI.refl io σi)
    have hdr : ds.drop i = y :: ds.drop (i + 1) := by
      rw [List.drop_eq_getElem_cons hlt]
      rw [List.getElem?_eq_getElem hlt] at hy1
      cases hy1; rfl
    rw [hdr] at ci
    cases ep : Tg.put t y si with
    | none => simp only [forGo, ep] at ci; exact ci.elim
    | some s3 =>
      simp only [forGo, ep] at ci
      refine ⟨B, Dzi, Fi, si, y, s3, Ri, hy2, ep, fun σ2 F2 t2 R2 sg => ⟨B, Dzi, F2, s3, R2, ?_⟩⟩
      have g2 : SigI io σi σ2 := ⟨sg.1, fun j hj => sg.2 j fun z => by
        unfold okTg at hok
        have hcl : clash t.slots io = false := by simpa using hok
        exact clash_not hcl z hj⟩
      have next : ∀ {s4 : Sl}, Fine X.K io (t.slots ++ S.mutss b) B Dzi Fi σi H' En (forGo (fun x s2 => match Tg.put t x s2 with
            | some s3 => evSs cf io n b s3
            | none => .no) (ds.drop (i + 1)) s4) → ∀ (Dz' : Addr → Prop) (F' : Nat → List Addr) (H2 : Hp) (σ' : L2.St), Tr (S.mutss b) Dzi F2 H' Dz' F' H2 → Rel X.K B Dz' F' s4 σ' H2 → SigI io σ2 σ' →
            ∃ m', m' < ds.length - i ∧ (m' = ds.length - (i + 1) ∧ i + 1 ≤ ds.length ∧ ∃ (Dzi : Addr → Prop) (Fi : Nat → List Addr) (si : Sl), Rel X.K B Dzi Fi si σ' H2 ∧ Tr (t.slots ++ S.mutss b) Dz1 F1 H1 Dzi Fi H2 ∧ SigI io σ σ' ∧
              Fine X.K io (t.slots ++ S.mutss b) B Dzi Fi σ' H2 En (forGo (fun x s2 => match Tg.put t x s2 with
                    | some s3 => evSs cf io n b s3
                    | none => .no) (ds.drop (i + 1)) si)) := fun {s4} cn Dz' F' H2 σ' t3 R3 g3 => by
        have t23 := t2.trans t3
        refine ⟨ds.length - (i + 1), by omega, rfl, hlt, Dz', F', s4, R3, (ti.trans t23).mono fun j hj => by grind, gi.trans (g2.trans g3), ?_⟩
        exact (cn.mono (M1 := (t.slots ++ S.mutss b) ++ (t.slots ++ S.mutss b)) fun j hj => by grind).later t23 (g2.trans g3)
      cases eb : evSs cf io n b s3 with
      | nx s4 => rw [eb] at ci; exact next ci
      | ct s4 => rw [eb] at ci; exact next ci
      | brk s4 => rw [eb] at ci; exact fun Dz' F' H2 σ' t3 R3 g3 => ci Dz' F' H2 σ' (t2.trans t3) R3 (g2.trans g3)
      | ret k d s4 => rw [eb] at ci; exact fun Dz' F' H2 σ' v G t3 R3 g3 rv fr => ci Dz' F' H2 σ' v G (t2.trans t3) R3 (g2.trans g3) rv fun a m => t2.fresh (fr a m)
      | no => rw [eb] at ci; exact ci
  · have e0 : ds.drop i = [] := List.drop_eq_nil_of_le (by omega)
    rw [e0] at ci
    exact .inl ⟨jx.2 (by omega), ci Dzi Fi Hi σi (Tr.refl _) Ri (SigI.refl _ _)⟩
theorem good_for {t : Tg} {it : E} {b : List S} {tg iter : Expr} {pb : List Stmt} {pos : Pos} (hp : PassesOwn (model X.prog X.w) X.A X.env X.xe) (hc : X.calm = true) (hi : PI X tg iter (tI cf io X.K it (t.slots ++ S.mutss b))) (hg : PG X tg (gT X.K t)) (hb : PSs X pb (tSs cf io n X.K b))
    (hs : ∀ x, foldedSetIterable iter X.env x = pure x) : PS X (.For tg iter pb [] pos) (tS cf io n X.K (.for_ t it b)) := good_forG (IR := IR0 X.K) hp hc (tI_G hi) hg hb hs
theorem good_whl {ce : E} {b : List S} {pc : Expr} {pb : List Stmt} {pos : Pos} (hp : PassesOwn (model X.prog X.w) X.A X.env X.xe) (hc : Good cf io X ce pc) (hb : PSs X pb (tSs cf io n X.K b)) : PS X (.While pc pb [] pos) (tS cf io n X.K (.whl ce b)) := by
  refine PS.imp (ps_while hp hc.tst hb) ?_
  rintro En σ H ⟨B, Dz, F, s, R, c⟩
  rw [evS] at c
  have mm : S.muts (.whl ce b) = E.muts ce ++ S.mutss b := rfl
  rw [mm] at c
  generalize hcg : (fun s => match evE cf io ce s with
      | .ok r s1 => match r.d with
        | .bl b => Ev.ok b s1
        | _ => .no
      | .no => .no) = cg at c
  refine ⟨fun m σi Hi => ∃ (Dzi : Addr → Prop) (Fi : Nat → List Addr) (si : Sl), Rel X.K B Dzi Fi si σi Hi ∧ Fine X.K io (E.muts ce ++ S.mutss b) B Dzi Fi σi Hi En (whGo cg (evSs cf io n b) m si), ⟨n, Dz, F, s, R, c⟩, ?_⟩
  rintro m σi Hi ⟨Dzi, Fi, si, Ri, ci⟩
  cases m with
  | zero => exact ci.elim
  | succ m =>
    simp only [whGo] at ci
    have hcs : cg si = match evE cf io ce si with
      | .ok r s1 => match r.d with
        | .bl b => Ev.ok b s1
        | _ => .no
      | .no => .no := by rw [← hcg]
    cases ee : evE cf io ce si with
    | no =>
      rw [ee] at hcs
      rw [hcs] at ci
      exact ci.elim
    | ok r s1 =>
      rw [ee] at hcs
      simp only at hcs
      refine tE.next cf io Ri ee fun Dz1 F1 H1 v G t1 R1 o1 g1 => ?_
      cases ed : r.d with
      | bl x =>
        rw [ed] at hcs
        simp only at hcs
        rw [hcs] at ci
        refine ⟨x, o1.bl ed, ?_⟩
        cases x with
        | false =>
          rw [if_neg Bool.false_ne_true]
          exact ci Dz1 F1 H1 σi (t1.mono fun i hi => by simp [hi]) R1 (SigI.refl _ _)
        | true =>
          rw [if_pos rfl]
          refine ⟨fun σ' H' => ∃ m', m' < m + 1 ∧ ∃ (Dzi : Addr → Prop) (Fi : Nat → List Addr) (si : Sl), Rel X.K B Dzi Fi si σ' H' ∧ Fine X.K io (E.muts ce ++ S.mutss b) B Dzi Fi σ' H' En (whGo cg (evSs cf io n b) m' si), fun σ' H' h => h, B, Dz1, F1, s1, R1, ?_⟩
          simp only at ci
          have next : ∀ {s4 : Sl}, Fine X.K io (E.muts ce ++ S.mutss b) B Dzi Fi σi Hi En (whGo cg (evSs cf io n b) m s4) → ∀ (Dz' : Addr → Prop) (F' : Nat → List Addr) (H2 : Hp) (σ' : L2.St), Tr (S.mutss b) Dz1 F1 H1 Dz' F' H2 → Rel X.K B Dz' F' s4 σ' H2 → SigI io σi σ' →
              ∃ m', m' < m + 1 ∧ ∃ (Dzi : Addr → Prop) (Fi : Nat → List Addr) (si : Sl), Rel X.K B Dzi Fi si σ' H2 ∧ Fine X.K io (E.muts ce ++ S.mutss b) B Dzi Fi σ' H2 En (whGo cg (evSs cf io n b) m' si) := fun {s4} cn Dz' F' H2 σ' t3 R3 g3 =>
            ⟨m, by omega, Dz', F', s4, R3, (cn.mono (M1 := (E.muts ce ++ S.mutss b) ++ (E.muts ce ++ S.mutss b)) fun j hj => by grind).later (t1.trans t3) g3⟩
          cases eb : evSs cf io n b s1 with
          | nx s4 => rw [eb] at ci; exact next ci
          | ct s4 => rw [eb] at ci; exact next ci
          | brk s4 => rw [eb] at ci; exact fun Dz' F' H2 σ' t3 R3 g3 => ci Dz' F' H2 σ' (t1.trans t3) R3 g3
          | ret k d s4 => rw [eb] at ci; exact fun Dz' F' H2 σ' v G t3 R3 g3 rv fr => ci Dz' F' H2 σ' v G (t1.trans t3) R3 g3 rv fun a m => t1.fresh (fr a m)
          | no => rw [eb] at ci; exact ci
      | _ =>
        rw [ed] at hcs
        simp only at hcs
        rw [hcs] at ci
        exact ci.elim
end Ti
end

section
/-! for k, x in enumerate(xs) -/
namespace Ti
open PySem PySem.Spec PyProof.Rows L2
variable [PWc]
variable {cf : Nat → List Arg → Rs} {io : List Nat} {X : Cx}
theorem puts_len : ∀ {ts : List Tg} {ds : List D} {s s' : Sl}, Tg.puts ts ds s = some s' → ds.length = ts.length := by
  intro ts
  induction ts with
  | nil => intro ds s s' h; cases ds with
    | nil => rfl
    | cons _ _ => simp only [Tg.puts] at h; cases h
  | cons t ts ih => intro ds s s' h; cases ds with
    | nil => simp only [Tg.puts] at h; cases h
    | cons d ds =>
      simp only [Tg.puts] at h
      rw [Option.bind_eq_some_iff] at h
      obtain ⟨_, _, h⟩ := h
      rw [List.length_cons, List.length_cons, ih h]
/-- a pair that is taken apart at once -/
def IRe (K : PySem.W.Frag) : Hp → (Addr → Prop) → D → V → Prop := fun H Dz d v => ∃ (T : Addr) (vs : List V) (ds : List D), v = .ref T ∧ d = .tup ds ∧ SqT K H T vs ∧ Rps K H Dz 0 ds vs []
theorem good_tpE {ts : List Tg} {pts : List Expr} {k : Nat} {pos : Pos} (hc : X.calm = true) (h : GoodTs X ts pts) : PG X (.Tuple pts k pos) (gTG X.K (IRe X.K) (.tp ts)) := by
  refine PG.imp (pg_tup hc h.run h.len h.star) ?_
  rintro v σ H Q ⟨B, Dz, F, s, d, s', R, ⟨T, vs, ds, rfl, rfl, hq, hr⟩, hp, c⟩
  simp only [Tg.put] at hp
  refine ⟨T, vs, rfl, hq, ?_, B, Dz, F, s, ds, s', R, hr, hp, c⟩
  rw [← hr.len]
  exact puts_len hp
theorem jx_enum {K : PySem.W.Frag} {H : Hp} {Dz : Addr → Prop} {a : Addr} {xs : List D} {vs : List V} (h : H a = some (.lst vs)) (r : Rps K H Dz 0 xs vs []) : JxG (IRe K) (Ite K a) (enumD xs) H Dz := fun i => by
  have sq : SqL K H a vs := .of h
  have hl : (enumD xs).length = xs.length := by unfold enumD; simp
  refine ⟨fun hi => ?_, fun hi => ⟨vs, sq, by rw [← r.len, ← hl]; exact hi⟩⟩
  rw [hl] at hi
  obtain ⟨v, G, h1, h2, h3⟩ := r.at (List.getElem?_eq_getElem hi)
  obtain rfl := List.sublist_nil.mp h3
  refine ⟨⟨vs, v, sq, h1⟩, fun x H' ⟨T, y, e1, e2, e3, e4⟩ => ?_⟩
  have := e4 vs sq
  rw [h1] at this
  cases this
  subst e3
  have sm := same_new (o := HO.tup [.int (i : Nat), v]) e2
  refine ⟨sm, .tup [.int (i : Nat), xs[i]], ?_, T, [.int (i : Nat), v], [.int (i : Nat), xs[i]], e1, rfl, .inl (.inl upd_same), .cons (F := []) (G := []) (.int _) (.cons (F := []) (G := []) (h2.up sm fun _ z => z) .nil)⟩
  unfold enumD
  rw [List.getElem?_map, List.getElem?_zipIdx, List.getElem?_eq_getElem hi]
  simp
theorem good_enm {ea : E} {a : Expr} {p pos tpos : Pos} {elts : List Expr} {kk : Nat} {ms : List Nat} (hg : Gl X ("enumerate" : Str)) (hm : X.mg ("enumerate" : Str) = none) (h : Good cf io X ea a) (s1 : notStar a = true) :
    PI X (.Tuple elts kk tpos) (.Call (.Name "enumerate" p) [a] [] pos) (tIG cf io X.K (IRe X.K) (.enm ea) ms) := by
  have pa : PA X [a] _ := pa_cons h.val pa_nil (star_cons s1 _ _)
  have base := pi_enum (kk := kk) (elts := elts) (tpos := tpos) (p := p) (pos := pos) hg hm pa (star_cons s1 _ _)
  refine ⟨fun pins s0 σ H R0 I hh => base.run pins s0 σ H R0 I ?_⟩
  obtain ⟨B, Dz, F, s, R, r, s', ds, e1, hw, c⟩ := hh
  rw [evE] at e1
  obtain ⟨r1, s2, e2, e1⟩ := Ev.bind_ok e1
  split at e1
  · rename_i k xs
    injection e1 with q1 q2
    subst q1 q2
    have hds : enumD xs = ds := Option.some.inj hw
    subst hds
    refine tE.next cf io R e2 fun Dz1 F1 H1 v G1 t1 R1 o1 g1 => ?_
    have hw2 : (RV.ow k (.lst xs)).walk ms (itemsOf (RV.ow k (.lst xs)).d) = some xs := rfl
    obtain ⟨Dz2, r2, t2, R2, hk, hd, hc, o2, hi⟩ := walk_ok t1 R1 o1 g1 hw2
    obtain ⟨Gp, p1⟩ := o2.rp
    rw [hd] at p1
    obtain ⟨l, vs, rfl, ha, hr⟩ := p1.lst1 hk
    refine ⟨l, vs, rfl, .of ha, c Dz2 F1 H1 _ t2 R2 fun Dz3 F3 H3 t3 => ?_⟩
    obtain ⟨Gp', p'⟩ := (o2.tr R2 t3 hc).rp
    rw [hd] at p'
    obtain ⟨a', vs', e', ha', hr'⟩ := p'.lst1 hk
    cases e'
    exact jx_enum ha' hr'
  · cases e1
end Ti
end

section
/-! changes in place -/
namespace Ti
open PySem PySem.Spec PyProof.Rows L2
variable [PWc]

variable {cf : Nat → List Arg → Rs} {io : List Nat} {n : Nat} {X : Cx}
/-- an item, or what a dict holds -/
def rIxP (K : PySem.W.Frag) : R2 := fun x y H Q => rIx K x y H Q ∨ ∃ (a : Addr) (ky : L2.Key) (w : V), x = .ref a ∧ y = kV ky ∧ DGet H a (kV ky) (some w) ∧ Q w H
theorem ix_P {X : Cx} (hu : X.A.units + 100 < cLine) : IxR X (rIxP X.K) := by
  intro value slice pins s σ H v w u1 u2 Q I r1 r2 h hs
  rcases h with h | ⟨a, ky, w', rfl, rfl, g, q⟩
  · exact ix_seq value slice pins s σ H v w u1 u2 Q I r1 r2 h hs
  · cases r1
    exact PyProof.Rows.tail_any (dict_typeIs I g) PySem.F.slot_dict_getitem.lookup (d_getItem (by omega) I g r2 fun x s' I' rx => ⟨w', H, I', rx, q⟩) hs
/-- the object at a slot's path -/
def tPth (cf : Nat → List Arg → Rs) (io : List Nat) (K : PySem.W.Frag) (i : Nat) : List E → TE
  | [] => tVar i
  | [.fk _ f] => tFld K (tVar i) (Str.ofString f)
  | [key] => tOp (rIxP K) (tVar i) (tE cf io K key)
  | _ => fun _ _ _ => False
theorem tPth_nf {K : PySem.W.Frag} {i : Nat} {key : E} (h : isFk key = none) : tPth cf io K i [key] = tOp (rIxP K) (tVar i) (tE cf io K key) := by
  unfold tPth
  cases key <;> first | rfl | (cases h; done)
theorem evPath_nf {key : E} {s : Sl} (h : isFk key = none) : evPath cf io [key] s = if E.muts key = [] then match evE cf io key s with
      | .ok r _ => if keyOk r.d = true then (evPath cf io [] s).map (r.d :: ·) else none
      | .no => none
    else none := by
  cases key <;> first | (cases h; done) | rfl
/-- what is found at a path, and how it may be exchanged -/
structure SubAt (K : PySem.W.Frag) (H : Hp) (Dz : Addr → Prop) (k : Nat) (d d' : D) (v : V) (G : List Addr) (f : Nat → D → Option D) (u : V) (k1 : Nat) (d1 d1' : D) (G1 : List Addr) : Prop where
  rp : Rp K H Dz (k1 + 1) d1 u G1
  sub : ∀ a ∈ G1, a ∈ G
  nd : G1.Nodup
  fe : f k1 d1 = some d1'
  put : ∀ (H' : Hp) (Dz' : Addr → Prop) (L' : List Addr), (∀ a, Dz a → Dz' a) → (∀ a o, H a = some o → ¬ Mut (some o) → H' a = some o) → (∀ a o, H a = some o → Dz a → H' a = some o) → (∀ a o, H a = some o → a ∈ G → a ∉ G1 → H' a = some o) → Rp K H' Dz' (k1 + 1) d1' u L' → L'.Nodup →
    (∀ a ∈ L', a ∈ G1 ∨ a ∉ G) → ∃ G', Rp K H' Dz' k d' v G' ∧ G'.Nodup ∧ ∀ a ∈ G', a ∈ G ∨ a ∈ L'
theorem pth_next {p : List E} {i k : Nat} {d : D} {ks : List D} {K : PySem.W.Frag} {B Dz : Addr → Prop} {F : Nat → List Addr} {H : Hp} {s : Sl} {σ : L2.St} {f : Nat → D → Option D} {d' : D} {P : VK} (R : Rel K B Dz F s σ H) (hk : evPath cf io p s = some ks) (hl : p.length ≤ 1) (hs : s[i]? = some (.ow k d)) (hu : updD k d ks f = some d')
    (hc : ∀ c f, p = [.fk c f] → ∀ C, ClsAt K c C → Cls K C ∧ NoAttr K C (Str.ofString f))
    (h : ∀ (Dz1 : Addr → Prop) (F1 : Nat → List Addr) (H1 : Hp) (u v : V) (k1 : Nat) (d1 d1' : D) (G1 : List Addr), Tr [] Dz F H Dz1 F1 H1 → Rel K B Dz1 F1 s σ H1 → σ[i]? = some (some v) → SubAt K H1 Dz1 k d d' v (F1 i) f u k1 d1 d1' G1 → P u H1) : tPth cf io K i p σ H P := by
  obtain ⟨v, hv, hr⟩ := R.sl i _ hs
  match p, hl with
  | [], _ =>
    simp only [evPath] at hk
    cases hk
    obtain ⟨k1, d1, d1', v1, G1, q1, q2, q3, q4, q5, q6⟩ := sub_ok hr (R.nd i) (R.dz i) hu
    cases q5
    exact ⟨v, hv, h Dz F H v v k1 d1 d1' G1 (Tr.refl _) R hv ⟨q1, q2, q3, q4, q6⟩⟩
  | [key], _ =>
    cases hkey : isFk key with
    | some cf' =>
      obtain ⟨c, f'⟩ := cf'
      obtain rfl : key = .fk c f' := by
        cases key <;> simp only [isFk] at hkey <;> cases hkey
        rfl
      simp only [evPath] at hk
      cases hk
      obtain ⟨k1, d1, d1', v1, G1, q1, q2, q3, q4, q5, q6⟩ := sub_ok hr (R.nd i) (R.dz i) hu
      have fin := h Dz F H v1 v k1 d1 d1' G1 (Tr.refl _) R hv ⟨q1, q2, q3, q4, q6⟩
      cases q5 with
      | fld a1 a2 a3 a4 =>
        cases a4
        obtain ⟨c1, c2⟩ := hc c f' rfl _ a2
        exact ⟨_, hv, _, _, _, _, _, rfl, a1, c1, c2, a3, fin⟩
    | none =>
    rw [evPath_nf hkey] at hk
    rw [tPth_nf hkey]
    split at hk
    case isFalse => cases hk
    rename_i hm
    split at hk
    case h_2 => cases hk
    rename_i r s' e1
    split at hk
    case isFalse => cases hk
    rename_i hko
    have es : s' = s := Fr.nil (by have := fr_E e1; rw [hm] at this; exact this)
    subst es
    cases hk
    refine ⟨v, hv, tE.next cf io R e1 fun Dz1 F1 H1 w G t1 R1 o1 g1 => ?_⟩
    rw [hm] at t1
    obtain ⟨v', hv', hr'⟩ := R1.sl i _ hs
    rw [hv] at hv'
    cases hv'
    obtain ⟨k1, d1, d1', v1, G1, q1, q2, q3, q4, q5, q6⟩ := sub_ok hr' (R1.nd i) (R1.dz i) hu
    have fin := h Dz1 F1 H1 v1 v k1 d1 d1' G1 t1 R1 hv ⟨q1, q2, q3, q4, q6⟩
    cases hd : r.d with
    | int z =>
      rw [hd] at q5
      have := o1.int hd
      subst this
      cases q5 with
      | cons a1 a2 a3 a4 =>
        cases a4
        have at_ : ∀ {vs : List V} {j : Nat} {w : V}, place vs.length z = some j → vs[j]? = some w → atI vs z = some w := fun h1 h2 => by
          unfold atI
          rw [← place_ix, h1]
          exact h2
        rcases a1 with a1 | a1
        · exact .inl (.inl ⟨_, _, _, _, rfl, rfl, a1, at_ a2 a3, fin⟩)
        · exact .inl (.inr (.inl ⟨_, _, _, _, rfl, rfl, a1.sq, at_ a2 a3, fin⟩))
    | str z =>
      rw [hd] at q5
      obtain ⟨_, p2⟩ := o1.rp
      rw [hd] at p2
      have ev := keyV p2 (y := .inr (Str.ofString z)) rfl
      subst ev
      cases q5 with
      | dct a1 a2 a3 =>
        cases a3
        refine .inr ⟨_, _, _, rfl, rfl, ?_, fin⟩
        rw [← a2]
        exact DGet.k a1
    | ins c' fs' => rw [hd] at hko; cases hko
    | _ => rw [hd] at q5; cases q5
section
variable {K : PySem.W.Frag} {B Dz Dz' Dz1 Dz2 : Addr → Prop} {F F' F1 F2 : Nat → List Addr} {H H' H1 H2 : Hp} {M : List Nat} {s s' s1 s2 : Sl} {σ : L2.St}
/-- the write itself, behind other code -/
theorem poke_ok {i k k1 : Nat} {d d' d1 d1' : D} {u v : V} {G1 : List Addr} {f : Nat → D → Option D} (R1 : Rel K B Dz1 F1 s1 σ H1) (hv : σ[i]? = some (some v)) (sb : SubAt K H1 Dz1 k d d' v (F1 i) f u k1 d1 d1' G1) (hi : i ∉ M) (t : Tr M Dz1 F1 H1 Dz2 F2 H2) (R2 : Rel K B Dz2 F2 s2 σ H2) (hl : i < s2.length) :
    Rp K H2 Dz2 (k1 + 1) d1 u G1 ∧ (∀ a ∈ G1, a ∈ F2 i) ∧ (∀ a ∈ G1, ¬ Dz2 a) ∧
      ∀ (p : Addr) (o : HO) (N L' : List Addr), p ∈ G1 → (∀ a ∈ N, (∀ j, a ∉ F2 j) ∧ H2 a ≠ none) → Rp K (upd H2 p o) (Or Dz2 N) (k1 + 1) d1' u L' → L'.Nodup → (∀ a ∈ L', a ∈ G1 ∨ (¬ Or Dz2 N a ∧ ¬ B a ∧ ∀ j, a ∉ F2 j)) →
        ∃ G', Rel K B (Or Dz2 N) (fset F2 i G') (s2.set i (.ow k d')) σ (upd H2 p o) ∧ ∀ a ∈ G', a ∈ F2 i ∨ a ∈ L' := by
  obtain ⟨q1, q2, q3, q4, q6⟩ := sb
  have eF : F2 i = F1 i := t.fs i hi
  have kf : ∀ a o, H1 a = some o → a ∈ F1 i → H2 a = some o := fun a o e m => t.keep a o e fun j hj mj => hi (by rw [R1.dj i j a m mj]; exact hj)
  have kz : ∀ a o, H1 a = some o → Dz1 a → H2 a = some o := fun a o e z => t.keep a o e fun j _ mj => R1.dz j a mj z
  have sF : ∀ a ∈ G1, a ∈ F2 i := fun a m => by rw [eF]; exact q2 a m
  refine ⟨q1.stay t.dz t.nm kz fun a o e m => kf a o e (q2 a m), sF, fun a m => R2.dz i a (sF a m), fun p o N L' hp hN rp nd hL => ?_⟩
  have pF : p ∈ F2 i := sF p hp
  have mp : Mut (H2 p) := R2.mt i p pF
  cases hpo : H2 p with
  | none => rw [hpo] at mp; cases mp
  | some u0 =>
    rw [hpo] at mp
    have hz : ∀ a, Dz1 a → a ≠ p := fun a z e => R1.dz i a (by rw [e]; exact q2 p hp) z
    obtain ⟨G', g1, g2, g3⟩ := q6 (upd H2 p o) (Or Dz2 N) L' (fun a z => .inl (t.dz a z)) (fun a o' e n => by
        have e' := t.nm a o' e n
        rw [upd_ne (mut_ne hpo mp e' n)]; exact e') (fun a o' e z => by rw [upd_ne (hz a z)]; exact kz a o' e z)
      (fun a o' e m nm => by rw [upd_ne (show a ≠ p from fun z => nm (by rw [z]; exact hp))]; exact kf a o' e m) rp nd (fun a m => (hL a m).imp id fun z => by rw [← eF]; exact z.2.2 i)
    refine ⟨G', R2.poke hl hv pF hN hpo mp g1 g2 fun a m => ?_, fun a m => by rw [eF]; exact g3 a m⟩
    rcases g3 a m with z | z
    · exact .inl (by rw [eF]; exact z)
    · rcases hL a z with y | y
      · exact .inl (by rw [eF]; exact q2 a y)
      · exact .inr y
theorem Rp.updp {k : Nat} {d : D} {v : V} {G : List Addr} {p : Addr} {u o : HO} (h : Rp K H Dz k d v G) (hp : H p = some u) (hm : Mut (some u)) (hz : ¬ Dz p) (hG : p ∉ G) : Rp K (upd H p o) Dz k d v G :=
  h.stay (fun _ z => z) (fun a o e n => by rw [upd_ne (mut_ne hp hm e n)]; exact e) (fun a o e z => by rw [upd_ne (show a ≠ p from fun y => hz (by rw [← y]; exact z))]; exact e) fun a o e m => by rw [upd_ne (show a ≠ p from fun y => hG (by rw [← y]; exact m))]; exact e
theorem Rps.updp {k : Nat} {d : List D} {v : List V} {G : List Addr} {p : Addr} {u o : HO} (h : Rps K H Dz k d v G) (hp : H p = some u) (hm : Mut (some u)) (hz : ¬ Dz p) (hG : p ∉ G) : Rps K (upd H p o) Dz k d v G :=
  h.stay (fun _ z => z) (fun a o e n => by rw [upd_ne (mut_ne hp hm e n)]; exact e) (fun a o e z => by rw [upd_ne (show a ≠ p from fun y => hz (by rw [← y]; exact z))]; exact e) fun a o e m => by rw [upd_ne (show a ≠ p from fun y => hG (by rw [← y]; exact m))]; exact e
theorem Rps.set {k : Nat} : ∀ {xs : List D} {vs : List V} {G : List Addr} {j : Nat} {d : D} {w : V} {L' : List Addr}, Rps K H Dz k xs vs G → j < xs.length → Rp K H Dz k d w L' → ∃ A L C, G = A ++ L ++ C ∧ Rps K H Dz k (xs.set j d) (vs.set j w) (A ++ L' ++ C)
  | _, _, _, j, d, w, L', .nil, hj, _ => by simp at hj
  | _, _, _, 0, d, w, L', .cons (F := L) (G := G) h r, hj, p => ⟨[], L, G, by simp, by simpa using Rps.cons p r⟩
  | _, _, _, j + 1, d, w, L', .cons (F := L0) (G := G) h r, hj, p => by
    obtain ⟨A, L, C, e, q⟩ := Rps.set (j := j) r (by simpa using hj) p
    exact ⟨L0 ++ A, L, C, by rw [e]; simp, by simpa using Rps.cons h q⟩
theorem Rps.erase {k : Nat} : ∀ {xs : List D} {vs : List V} {G : List Addr} (j : Nat), Rps K H Dz k xs vs G → ∃ G', Rps K H Dz k (xs.eraseIdx j) (vs.eraseIdx j) G' ∧ G'.Sublist G
  | _, _, _, j, .nil => ⟨[], by simpa using Rps.nil, List.Sublist.refl _⟩
  | _, _, _, 0, .cons (F := L) (G := G) h r => ⟨G, by simpa using r, List.sublist_append_right _ _⟩
  | _, _, _, j + 1, .cons (F := L0) (G := G) h r => by
    obtain ⟨G', q, e⟩ := Rps.erase j r
    exact ⟨L0 ++ G', by simpa using Rps.cons h q, (List.Sublist.refl _).append e⟩
theorem Rps.ins {k : Nat} : ∀ {xs : List D} {vs : List V} {G : List Addr} {d : D} {w : V} {L' : List Addr} (j : Nat), Rps K H Dz k xs vs G → Rp K H Dz k d w L' → ∃ A C, G = A ++ C ∧ Rps K H Dz k (xs.take j ++ d :: xs.drop j) (vs.take j ++ w :: vs.drop j) (A ++ L' ++ C)
  | _, _, G, d, w, L', 0, r, p => ⟨[], G, rfl, by simpa using Rps.cons p r⟩
  | _, _, _, d, w, L', j + 1, .nil, p => ⟨[], [], rfl, by simpa using Rps.cons p .nil⟩
  | _, _, _, d, w, L', j + 1, .cons (F := L0) (G := G) h r, p => by
    obtain ⟨A, C, e, q⟩ := Rps.ins j r p
    exact ⟨L0 ++ A, C, by rw [e]; simp, by simpa using Rps.cons h q⟩
end

theorem chg_ok {s : Sl} {i : Nat} {ks : List D} {f : Nat → D → Option D} {o : Out} (h : chg s i ks f = o) : o = .no ∨ ∃ k d d', s[i]? = some (.ow k d) ∧ updD k d ks f = some d' ∧ o = .nx (s.set i (.ow k d')) := by
  unfold chg at h
  split at h
  · split at h
    · exact .inr ⟨_, _, _, by assumption, by assumption, h.symm⟩
    · exact .inl h.symm
  · exact .inl h.symm
/-- one value goes into a list -/
theorem lst_put {K : PySem.W.Frag} {B Dz0 Dz1 Dz2 : Addr → Prop} {F0 F1 F2 : Nat → List Addr} {H0 H1 H2 : Hp} {M M0 : List Nat} {s1 s2 : Sl} {σ : L2.St} {i k k1 kf : Nat} {d d' : D} {p : Addr} {v : V} {G1 : List Addr} {f : Nat → D → Option D} {xs ys : List D} {r : RV} {w : V} {Gw : List Addr} {dd : D} {En : Ends}
    (R1 : Rel K B Dz1 F1 s1 σ H1) (hv : σ[i]? = some (some v)) (sb : SubAt K H1 Dz1 k d d' v (F1 i) f (.ref p) k1 (.lst xs) (.lst ys) G1) (hi : i ∉ M) (t : Tr M Dz1 F1 H1 Dz2 F2 H2) (R2 : Rel K B Dz2 F2 s2 σ H2) (hl : i < s2.length)
    (o2 : RvOk K B H2 Dz2 F2 r w Gw) (ed : r.fit kf = some dd) (hm : ∀ i ∈ M, i ∈ M0) (hmi : i ∈ M0) (t0 : Tr M0 Dz0 F0 H0 Dz2 F2 H2) (gw : ∀ a ∈ Gw, H0 a = none ∨ ∃ j ∈ M0, a ∈ F0 j)
    (c : Fine K io M0 B Dz0 F0 σ H0 En (.nx (s2.set i (.ow k d')))) :
    ∃ vs : List V, H1 p = some (.lst vs) ∧ H2 p = some (.lst vs) ∧ xs.length = vs.length ∧ ∀ vs2 : List V,
      (∀ (H' : Hp) (Dz' : Addr → Prop) (G L' : List Addr), Rps K H' Dz' k1 xs vs G → Rp K H' Dz' kf dd w L' → (G ++ L').Nodup → (∀ a ∈ L', H' a = H2 a) → ∃ G', Rps K H' Dz' k1 ys vs2 G' ∧ G'.Nodup ∧ ∀ a ∈ G', a ∈ G ++ L') → En.nx σ (upd H2 p (.lst vs2)) := by
  obtain ⟨b1, b2, b3, b4⟩ := poke_ok R1 hv sb hi t R2 hl
  obtain ⟨vs1, Ga, eg1, h1, r1⟩ := sb.rp.lo_inv
  obtain ⟨vs, Gb, eg, h2, r2⟩ := b1.lo_inv
  rw [eg1] at eg
  injection eg with _ eg
  subst eg
  have e12 : H2 p = some (.lst vs1) := by
    have : p ∈ F1 i := sb.sub p (by rw [eg1]; simp)
    exact t.keep p _ h1 fun j hj mj => hi (by rw [R1.dj i j p this mj]; exact hj)
  rw [h2] at e12
  cases e12
  have nd := sb.nd
  rw [eg1] at nd b2 b3 b4
  rw [List.nodup_cons] at nd
  refine ⟨vs1, h1, h2, r2.len, fun vs2 hh => ?_⟩
  obtain ⟨G', N, f1, f2, f3, f4⟩ := o2.fit ed
  have og := o2.out
  have pF : p ∈ F2 i := b2 p (by simp)
  have pN : ∀ a ∈ N, a ≠ p := fun a m e => (og.2 a (f3.subset m)).2.2.1 i (by rw [e]; exact pF)
  have pz : ¬ Or Dz2 N p := fun z => z.elim (b3 p (by simp)) fun m => pN p m rfl
  have pG : p ∉ G' := fun m => (og.2 p (f2.subset m)).2.2.1 i pF
  have gaG : ∀ a ∈ Ga, a ∉ Gw := fun a m m1 => (og.2 a m1).2.2.1 i (b2 a (by simp [m]))
  obtain ⟨L', l1, l2, l3⟩ := hh (upd H2 p (.lst vs2)) (Or Dz2 N) Ga G' ((r2.more fun _ z => .inl z).updp h2 True.intro pz nd.1) (f1.updp h2 True.intro pz pG) (by
    rw [List.nodup_append]
    exact ⟨nd.2, og.1.sublist f2, fun a m b mb e => gaG a m (by rw [e]; exact f2.subset mb)⟩) (fun a m => upd_ne fun e => pG (e ▸ m))
  obtain ⟨G2, Rn, g2⟩ := b4 p (.lst vs2) N (p :: L') (by simp) (fun a m => ⟨(og.2 a (f3.subset m)).2.2.1, tracked (og.2 a (f3.subset m)).2.2.2⟩) (.lo upd_same l1) (List.nodup_cons.mpr ⟨fun m => (List.mem_append.mp (l3 p m)).elim nd.1 pG, l2⟩) (fun a m => by
    rcases List.mem_cons.mp m with rfl | m
    · exact .inl (by simp)
    · rcases List.mem_append.mp (l3 a m) with z | z
      · exact .inl (by simp [z])
      · have q := og.2 a (f2.subset z)
        exact .inr ⟨fun y => y.elim q.1 (f4 a z), q.2.1, q.2.2.1⟩)
  have inM : ∀ {a : Addr}, a ∈ F2 i → H0 a = none ∨ ∃ j ∈ M0, a ∈ F0 j := fun {a} m => t0.fn i a hmi m
  refine c (Or Dz2 N) (fset F2 i G2) _ σ (t0.poke hmi (inM pF) (by rw [h2]; exact True.intro) (fun a m => gw a (f3.subset m)) fun a m => ?_) Rn (SigI.refl _ _)
  rcases g2 a m with z | z
  · exact inM z
  · rcases List.mem_cons.mp z with rfl | z
    · exact inM pF
    · rcases List.mem_append.mp (l3 a z) with y | y
      · exact inM (b2 a (by simp [y]))
      · exact gw a (f2.subset y)
end Ti
end

section
namespace Ti
open PySem PySem.Spec PyProof.Rows L2
variable [PWc]

variable {cf : Nat → List Arg → Rs} {io : List Nat} {n : Nat} {X : Cx}
theorem evAs_one {e : E} {s s1 : Sl} {r : RV} (h : evE cf io e s = .ok r s1) (hni : ∀ i, e ≠ .io i) : evAs cf io [e] s = .ok [.rv r] s1 := by
  rw [evAs, h]
  · simp only [Ev.bind, E.mutss]
    rw [evAs]
    simp [clash]
  · exact hni
theorem AvsOk.one {K : PySem.W.Frag} {B Dz : Addr → Prop} {F : Nat → List Addr} {H : Hp} {σ : L2.St} {r : RV} {vs : List V} {G : List Addr} (h : AvsOk K B H Dz F σ [.rv r] vs G) : ∃ w, vs = [w] ∧ RvOk K B H Dz F r w G := by
  generalize ha : [AV.rv r] = as at h
  cases h with
  | nil => cases ha
  | io _ _ => cases ha
  | rv o t dj =>
    cases ha
    cases t
    exact ⟨_, rfl, by simpa using o⟩
theorem tyl {K : PySem.W.Frag} {H : Hp} {p : Addr} {vs : List V} (h : H p = some (.lst vs)) : tyV K "list" (.ref p) H := .inl ⟨rfl, vs, .of h⟩
theorem noSwap_call {f : Expr} {as : List Expr} {ks : List Keyword} {pos : Pos} {t : Option Expr} {l : Nat} {env : Env} : swapsWith (.Call f as ks pos) t l env = pure false := rfl
theorem good_app {i : Nat} {p : List E} {e : E} {o a : Expr} {apos cpos pos : Pos} (ho : PE X o (tPth cf io X.K i p)) (hl : p.length ≤ 1) (hcl : ∀ c f, p = [E.fk c f] → ∀ C, ClsAt X.K c C → Cls X.K C ∧ NoAttr X.K C (Str.ofString f)) (ha : Goods cf io X [e] [a]) (hni : ∀ i, e ≠ .io i) (hb : plainBase o = true) (hline : (apos.endLine == cpos.line) = true) :
    PS X (.Expr (.Call (.Attribute o "append" apos) [a] [] cpos) pos) (tS cf io n X.K (.app i p e)) := by
  have hs := ha.star
  simp only [List.all_cons, List.all_nil, Bool.and_true] at hs
  refine PS.imp (ps_expr (pe_bm F.plainAttrs_list F.slot_list_append F.type_list_append mt_append ho ha.val (base_of hb _ _ _) (few_of ha.star (by simp)) hline (star_cons hs _ _) rfl) rfl) ?_
  rintro En σ H ⟨B, Dz, F, s, R, c⟩
  rw [evS] at c
  split at c
  case h_2 => exact c.elim
  rename_i ks hk
  split at c
  case isTrue => exact c.elim
  rename_i hni2
  have hi : i ∉ E.muts e := by simpa using hni2
  split at c
  case h_2 => exact c.elim
  rename_i r s1 e1
  generalize hch : chg s1 i ks (appF r) = oc at c
  rcases chg_ok hch with rfl | ⟨k, d, d', hs1, hu, rfl⟩
  · exact c.elim
  have hsi : s[i]? = some (.ow k d) := by rw [← (fr_E e1).2 i hi]; exact hs1
  have hl1 : i < s1.length := (List.getElem?_eq_some_iff.mp hs1).1
  refine pth_next R hk hl hsi hu hcl fun Dz1 F1 H1 u v k1 d1 d1' G1 t1 R1 hv sb => ?_
  have fe := sb.fe
  cases d1 with
  | lst xs =>
    simp only [appF] at fe
    split at fe
    case isFalse => cases fe
    rename_i hz
    rw [Option.map_eq_some_iff] at fe
    obtain ⟨dd, ed, rfl⟩ := fe
    obtain ⟨q, vq, eu, hq⟩ : ∃ (q : Addr) (vq : List V), u = .ref q ∧ H1 q = some (.lst vq) := by
      have := sb.rp
      cases this with
      | lo h r => exact ⟨_, _, rfl, h⟩
    subst eu
    refine ⟨tyl hq, tAs.next cf io R1 (evAs_one e1 hni) fun Dz2 F2 H2 ws G t2 R2 o2 g2 => ?_⟩
    obtain ⟨w, rfl, o3⟩ := o2.one
    have mm : E.mutss [e] = E.muts e := by simp [E.mutss]
    rw [mm] at t2 g2
    have t0 : Tr (i :: E.muts e) Dz F H Dz2 F2 H2 := (t1.trans t2).mono fun j hj => by simp at hj ⊢; exact .inr hj
    obtain ⟨vs, h1, h2, hlen, fin⟩ := lst_put (M := E.muts e) R1 hv sb hi t2 R2 hl1 o3 ed (M0 := i :: E.muts e) (fun j hj => by simp [hj]) (by simp) t0 (fun a m => (t1.fresh (g2 a m)).imp id fun ⟨j, hj, z⟩ => ⟨j, by simp at hj ⊢; exact .inr hj, z⟩) c
    refine ⟨q, vs, w, rfl, rfl, h2, by rw [← hlen, ← big_size]; exact hz, fin _ fun H' Dz' G L' r1 r2 nd _ => ⟨G ++ L', r1.snoc r2, nd, fun _ m => m⟩⟩
  | _ => simp only [appF] at fe; cases fe
theorem AvsOk.two {K : PySem.W.Frag} {B Dz : Addr → Prop} {F : Nat → List Addr} {H : Hp} {σ : L2.St} {q r : RV} {vs : List V} {G : List Addr} (h : AvsOk K B H Dz F σ [.rv q, .rv r] vs G) : ∃ w1 w2 G1 G2, vs = [w1, w2] ∧ RvOk K B H Dz F q w1 G1 ∧ RvOk K B H Dz F r w2 G2 ∧ ∀ a ∈ G2, a ∈ G := by
  generalize ha : [AV.rv q, AV.rv r] = as at h
  cases h with
  | nil => cases ha
  | io _ _ => cases ha
  | rv o t dj =>
    cases ha
    obtain ⟨w, rfl, o2⟩ := t.one
    exact ⟨_, _, _, _, rfl, o, o2, fun a m => List.mem_append_right _ m⟩
theorem good_ins {i : Nat} {p : List E} {e1 e2 : E} {o a b : Expr} {apos cpos pos : Pos} (ho : PE X o (tPth cf io X.K i p)) (hl : p.length ≤ 1) (hcl : ∀ c f, p = [E.fk c f] → ∀ C, ClsAt X.K c C → Cls X.K C ∧ NoAttr X.K C (Str.ofString f)) (ha : Goods cf io X [e1, e2] [a, b]) (hb : plainBase o = true) (hline : (apos.endLine == cpos.line) = true) :
    PS X (.Expr (.Call (.Attribute o "insert" apos) [a, b] [] cpos) pos) (tS cf io n X.K (.ins i p e1 e2)) := by
  have hs := ha.star
  simp only [List.all_cons, List.all_nil, Bool.and_true, Bool.and_eq_true] at hs
  refine PS.imp (ps_expr (pe_bm F.plainAttrs_list F.slot_list_insert F.type_list_insert mt_insert ho ha.val (base_of hb _ _ _) (few_of ha.star (by simp)) hline (star_cons hs.1 _ _) (star_any (by simp [hs.2]))) rfl) ?_
  rintro En σ H ⟨B, Dz, F, s, R, c⟩
  rw [evS] at c
  split at c
  case h_2 => exact c.elim
  rename_i ks hk
  split at c
  case isTrue => exact c.elim
  rename_i hni3
  have hi : i ∉ E.muts e1 ∧ i ∉ E.muts e2 := by simpa using hni3
  split at c
  case h_2 => exact c.elim
  rename_i q r s2 ee
  split at c
  case h_2 => exact c.elim
  rename_i j eqd
  generalize hch : chg s2 i ks (insF j r) = oc at c
  rcases chg_ok hch with rfl | ⟨k, d, d', hs2, hu, rfl⟩
  · exact c.elim
  have mm : E.mutss [e1, e2] = E.muts e1 ++ E.muts e2 := by simp [E.mutss]
  have him : i ∉ E.muts e1 ++ E.muts e2 := by simp [hi]
  have hsi : s[i]? = some (.ow k d) := by rw [← (fr_As ee).2 i (by rw [mm]; exact him)]; exact hs2
  have hl1 : i < s2.length := (List.getElem?_eq_some_iff.mp hs2).1
  refine pth_next R hk hl hsi hu hcl fun Dz1 F1 H1 u v k1 d1 d1' G1 t1 R1 hv sb => ?_
  have fe := sb.fe
  cases d1 with
  | lst xs =>
    simp only [insF] at fe
    split at fe
    case isFalse => cases fe
    rename_i hz
    rw [Option.map_eq_some_iff] at fe
    obtain ⟨dd, ed, rfl⟩ := fe
    obtain ⟨pq, vq, eu, hq⟩ : ∃ (q : Addr) (vq : List V), u = .ref q ∧ H1 q = some (.lst vq) := by
      have := sb.rp
      cases this with
      | lo h r => exact ⟨_, _, rfl, h⟩
    subst eu
    refine ⟨tyl hq, tAs.next cf io R1 ee fun Dz2 F2 H2 ws G t2 R2 o2 g2 => ?_⟩
    obtain ⟨w1, w2, Ga, Gb, rfl, oq, or, hG⟩ := o2.two
    obtain rfl := oq.int eqd
    rw [mm] at t2 g2
    have t0 : Tr (i :: (E.muts e1 ++ E.muts e2)) Dz F H Dz2 F2 H2 := (t1.trans t2).mono fun j hj => by simp at hj ⊢; exact .inr hj
    obtain ⟨vs, h1, h2, hlen, fin⟩ := lst_put (M := E.muts e1 ++ E.muts e2) R1 hv sb him t2 R2 hl1 or ed (M0 := i :: (E.muts e1 ++ E.muts e2)) (fun j hj => by simp at hj ⊢; exact .inr hj) (by simp) t0 (fun a m => (t1.fresh (g2 a (hG a m))).imp id fun ⟨j, hj, z⟩ => ⟨j, by simp at hj ⊢; exact .inr hj, z⟩) c
    refine ⟨pq, vs, j, w2, rfl, rfl, h2, by rw [← hlen, ← big_size]; exact hz.1, hz.2.1, by omega, ?_⟩
    have e3 : vs.take j.toNat ++ [w2] ++ vs.drop j.toNat = vs.take j.toNat ++ w2 :: vs.drop j.toNat := by simp
    rw [e3]
    refine fin _ fun H' Dz' G L' r1 r2 nd _ => ?_
    obtain ⟨A, C, rfl, rr⟩ := r1.ins j.toNat r2
    refine ⟨A ++ L' ++ C, rr, ?_, fun a m => by simp at m ⊢; grind⟩
    have pm : (A ++ L' ++ C).Perm ((A ++ C) ++ L') := by
      rw [List.append_assoc, List.append_assoc]
      exact List.Perm.append_left A List.perm_append_comm
    exact pm.nodup_iff.mpr nd
  | _ => simp only [insF] at fe; cases fe
theorem good_ext {i : Nat} {p : List E} {e : E} {o a : Expr} {apos cpos pos : Pos} (ho : PE X o (tPth cf io X.K i p)) (hl : p.length ≤ 1) (hcl : ∀ c f, p = [E.fk c f] → ∀ C, ClsAt X.K c C → Cls X.K C ∧ NoAttr X.K C (Str.ofString f)) (ha : Goods cf io X [e] [a]) (hni : ∀ i, e ≠ .io i) (hb : plainBase o = true) (hline : (apos.endLine == cpos.line) = true) :
    PS X (.Expr (.Call (.Attribute o "extend" apos) [a] [] cpos) pos) (tS cf io n X.K (.ext i p e)) := by
  have hs := ha.star
  simp only [List.all_cons, List.all_nil, Bool.and_true] at hs
  refine PS.imp (ps_expr (pe_bm F.plainAttrs_list F.slot_list_extend F.type_list_extend mt_extend ho ha.val (base_of hb _ _ _) (few_of ha.star (by simp)) hline (star_cons hs _ _) rfl) rfl) ?_
  rintro En σ H ⟨B, Dz, F, s, R, c⟩
  rw [evS] at c
  split at c
  case h_2 => exact c.elim
  rename_i ks hk
  split at c
  case isTrue => exact c.elim
  rename_i hni2
  have hi : i ∉ E.muts e := by simpa using hni2
  split at c
  case h_2 => exact c.elim
  rename_i r s1 e1
  split at c
  case h_2 => exact c.elim
  rename_i ys erd
  split at c
  case h_2 => exact c.elim
  rename_i ys2 hw
  have ewi : r.walk [i] (itemsOf r.d) = some ys2 := by rw [erd]; exact hw
  generalize hch : chg s1 i ks (extF ys2) = oc at c
  rcases chg_ok hch with rfl | ⟨k, d, d', hs1, hu, rfl⟩
  · exact c.elim
  have hsi : s[i]? = some (.ow k d) := by rw [← (fr_E e1).2 i hi]; exact hs1
  have hl1 : i < s1.length := (List.getElem?_eq_some_iff.mp hs1).1
  refine pth_next R hk hl hsi hu hcl fun Dz1 F1 H1 u v k1 d1 d1' G1 t1 R1 hv sb => ?_
  have fe := sb.fe
  cases d1 with
  | lst xs =>
    simp only [extF] at fe
    split at fe
    case isFalse => cases fe
    rename_i hz
    cases fe
    obtain ⟨hz, rfl⟩ := hz
    obtain ⟨q, vq, eu, hq⟩ : ∃ (q : Addr) (vq : List V), u = .ref q ∧ H1 q = some (.lst vq) := by
      have := sb.rp
      cases this with
      | lo h r => exact ⟨_, _, rfl, h⟩
    subst eu
    refine ⟨tyl hq, tAs.next cf io R1 (evAs_one e1 hni) fun Dz2 F2 H2 ws G t2 R2 o2 g2 => ?_⟩
    obtain ⟨w, rfl, o3⟩ := o2.one
    have mm : E.mutss [e] = E.muts e := by simp [E.mutss]
    rw [mm] at t2 g2
    obtain ⟨Dz3, r2, t3, R3, hk2, hd2, _, o4, hit⟩ := walk_ok t2 R2 o3 g2 ewi
    obtain ⟨Gp, p4⟩ := o4.rp
    rw [hd2, erd] at p4
    rw [erd] at hit
    cases hit
    obtain ⟨b, zs, rfl, hb2, hr2⟩ := p4.lst1 hk2
    have t0 : Tr (i :: E.muts e) Dz F H Dz3 F2 H2 := (t1.trans t3).mono fun j hj => by simp at hj ⊢; exact .inr hj
    obtain ⟨b1, b2, b3, b4⟩ := poke_ok R1 hv sb hi t3 R3 hl1
    obtain ⟨vs, Ga, eg, h2, r3⟩ := b1.lo_inv
    subst eg
    obtain rfl := r3.nil0
    have pz : ¬ Or Dz3 [] q := fun z => z.elim (b3 q (by simp)) fun m => by cases m
    obtain ⟨G2, Rn, g3⟩ := b4 q (.lst (vs ++ zs)) [] [q] (by simp) (fun a m => by cases m) (.lo upd_same (((r3.more fun _ z => .inl z).updp h2 True.intro pz (by simp)).app0 ((hr2.more fun _ z => .inl z).updp h2 True.intro pz (by simp)))) (by simp) fun a m => .inl m
    refine ⟨q, b, vs, zs, rfl, rfl, h2, hb2, by rw [← r3.len, ← hr2.len, ← big_size]; exact hz, ?_⟩
    have inM : ∀ {a : Addr}, a ∈ F2 i → H a = none ∨ ∃ j ∈ i :: E.muts e, a ∈ F j := fun {a} m => t0.fn i a (by simp) m
    refine c (Or Dz3 []) (fset F2 i G2) _ σ (t0.poke (by simp) (inM (b2 q (by simp))) (by rw [h2]; exact True.intro) (fun a m => by cases m) fun a m => ?_) Rn (SigI.refl _ _)
    rcases g3 a m with z | z
    · exact inM z
    · exact inM (b2 a z)
  | _ => simp only [extF] at fe; cases fe
end Ti
end

section
namespace Ti
open PySem PySem.Spec PyProof.Rows L2
variable [PWc]

variable {cf : Nat → List Arg → Rs} {io : List Nat} {n : Nat} {X : Cx}
theorem place_seq (n : Nat) (i : Int) : seqIndex? i n = place n i := by
  unfold seqIndex? place
  by_cases h : 0 ≤ i
  · have e : (if i < 0 then i + (n : Int) else i) = i := if_neg (by omega)
    rw [if_pos h]
    simp only [e]
    by_cases h2 : i < n
    · simp [h, h2]
    · simp [h2]
  · have e : (if i < 0 then i + (n : Int) else i) = i + n := if_pos (by omega)
    rw [if_neg h]
    simp only [e]
    by_cases h2 : 0 ≤ i + n
    · have : i + (n : Int) < n := by omega
      simp [h2, this]
    · simp [h2]
def plainIxB : Expr → Bool
  | .Slice .. => false
  | _ => true
theorem plainIx_of {b : Expr} (h : plainIxB b = true) : PlainIx b := fun o i => by cases b <;> first | rfl | (cases h; done)
theorem assign_sub {o i : Expr} {pos : Pos} {env : Env} (h : plainIxB i = true) (v : Value) : assign (.Subscript o i pos) env v = (do
      let ov ← holding [v] (eval o env)
      let iv ← holding [v, ov] (eval i env)
      standAt pos
      holding [v, ov, iv] (setItem ov iv v)
      release [v, ov, iv] []) := by cases i <;> first | rfl | (cases h; done)
theorem erase_last {α : Type} (xs : List α) : xs.eraseIdx (xs.length - 1) = xs.dropLast := by
  induction xs with
  | nil => rfl
  | cons x xs ih =>
    cases xs with
    | nil => rfl
    | cons y ys => simpa using ih
/-- an item is taken out -/
theorem pop_fin {K : PySem.W.Frag} {B Dz0 Dz1 Dz2 : Addr → Prop} {F0 F1 F2 : Nat → List Addr} {H0 H1 H2 : Hp} {M M0 : List Nat} {s1 s2 : Sl} {σ : L2.St} {i k k1 j : Nat} {d d' : D} {p : Addr} {v : V} {G1 : List Addr} {f : Nat → D → Option D} {xs : List D} {En : Ends}
    (R1 : Rel K B Dz1 F1 s1 σ H1) (hv : σ[i]? = some (some v)) (sb : SubAt K H1 Dz1 k d d' v (F1 i) f (.ref p) k1 (.lst xs) (.lst (xs.eraseIdx j)) G1) (hi : i ∉ M) (t : Tr M Dz1 F1 H1 Dz2 F2 H2) (R2 : Rel K B Dz2 F2 s2 σ H2) (hl : i < s2.length)
    (hmi : i ∈ M0) (t0 : Tr M0 Dz0 F0 H0 Dz2 F2 H2) (c : Fine K io M0 B Dz0 F0 σ H0 En (.nx (s2.set i (.ow k d')))) :
    ∃ vs : List V, H2 p = some (.lst vs) ∧ xs.length = vs.length ∧ En.nx σ (upd H2 p (.lst (vs.eraseIdx j))) := by
  obtain ⟨b1, b2, b3, b4⟩ := poke_ok R1 hv sb hi t R2 hl
  obtain ⟨vs, Ga, eg, h2, r2⟩ := b1.lo_inv
  have nd := sb.nd
  rw [eg] at nd b2 b3 b4
  rw [List.nodup_cons] at nd
  obtain ⟨G', rr, sub⟩ := r2.erase j
  have pz : ¬ Or Dz2 [] p := fun z => z.elim (b3 p (by simp)) fun m => by cases m
  obtain ⟨G2, Rn, g2⟩ := b4 p (.lst (vs.eraseIdx j)) [] (p :: G') (by simp) (fun a m => by cases m) (.lo upd_same ((rr.more fun _ z => .inl z).updp h2 True.intro pz fun m => nd.1 (sub.subset m))) (List.nodup_cons.mpr ⟨fun m => nd.1 (sub.subset m), nd.2.sublist sub⟩) (fun a m => by
    rcases List.mem_cons.mp m with rfl | m
    · exact .inl (by simp)
    · exact .inl (by simp [sub.subset m]))
  have inM : ∀ {a : Addr}, a ∈ F2 i → H0 a = none ∨ ∃ j ∈ M0, a ∈ F0 j := fun {a} m => t0.fn i a hmi m
  refine ⟨vs, h2, r2.len, c (Or Dz2 []) (fset F2 i G2) _ σ (t0.poke hmi (inM (b2 p (by simp))) (by rw [h2]; exact True.intro) (fun a m => by cases m) fun a m => ?_) Rn (SigI.refl _ _)⟩
  rcases g2 a m with z | z
  · exact inM z
  · rcases List.mem_cons.mp z with rfl | z
    · exact inM (b2 a (by simp))
    · exact inM (b2 a (by simp [sub.subset z]))
theorem good_pop0 {i : Nat} {p : List E} {o : Expr} {apos cpos pos : Pos} (ho : PE X o (tPth cf io X.K i p)) (hl : p.length ≤ 1) (hcl : ∀ c f, p = [E.fk c f] → ∀ C, ClsAt X.K c C → Cls X.K C ∧ NoAttr X.K C (Str.ofString f)) (hb : plainBase o = true) (hline : (apos.endLine == cpos.line) = true) :
    PS X (.Expr (.Call (.Attribute o "pop" apos) [] [] cpos) pos) (tS cf io n X.K (.pop i p none)) := by
  refine PS.imp (ps_expr (pe_bm0 F.plainAttrs_list F.slot_list_pop F.type_list_pop mt_pop ho (base_of hb _ _ _) hline) rfl) ?_
  rintro En σ H ⟨B, Dz, F, s, R, c⟩
  rw [evS] at c
  split at c
  case h_2 => exact c.elim
  rename_i ks hk
  simp only at c
  generalize hch : chg s i ks (popF (-1)) = oc at c
  rcases chg_ok hch with rfl | ⟨k, d, d', hs1, hu, rfl⟩
  · exact c.elim
  have hl1 : i < s.length := (List.getElem?_eq_some_iff.mp hs1).1
  refine pth_next R hk hl hs1 hu hcl fun Dz1 F1 H1 u v k1 d1 d1' G1 t1 R1 hv sb => ?_
  have fe := sb.fe
  cases d1 with
  | lst xs =>
    simp only [popF] at fe
    split at fe
    case isFalse => cases fe
    rw [Option.map_eq_some_iff] at fe
    obtain ⟨j, ej, rfl⟩ := fe
    obtain ⟨q, vq, eu, hq⟩ : ∃ (q : Addr) (vq : List V), u = .ref q ∧ H1 q = some (.lst vq) := by
      have := sb.rp
      cases this with
      | lo h r => exact ⟨_, _, rfl, h⟩
    subst eu
    refine ⟨tyl hq, ?_⟩
    obtain ⟨vs, h2, hlen, fin⟩ := pop_fin (M := []) (M0 := [i]) R1 hv sb (by simp) (Tr.refl _) R1 hl1 (by simp) (t1.mono fun j hj => by cases hj) c
    have hj : j = vs.length - 1 ∧ 0 < vs.length := by
      unfold place at ej
      rw [if_neg (by omega)] at ej
      split at ej
      · cases ej; omega
      · cases ej
    obtain ⟨rfl, hpos⟩ := hj
    rw [erase_last] at fin
    exact ⟨q, vs, vs[vs.length - 1], rfl, rfl, h2, List.getElem?_eq_getElem (by omega), fin⟩
  | _ => simp only [popF] at fe; cases fe
theorem good_pop1 {i : Nat} {p : List E} {e : E} {o a : Expr} {apos cpos pos : Pos} (ho : PE X o (tPth cf io X.K i p)) (hl : p.length ≤ 1) (hcl : ∀ c f, p = [E.fk c f] → ∀ C, ClsAt X.K c C → Cls X.K C ∧ NoAttr X.K C (Str.ofString f)) (ha : Goods cf io X [e] [a]) (hni : ∀ i, e ≠ .io i) (hb : plainBase o = true) (hline : (apos.endLine == cpos.line) = true) :
    PS X (.Expr (.Call (.Attribute o "pop" apos) [a] [] cpos) pos) (tS cf io n X.K (.pop i p (some e))) := by
  have hs := ha.star
  simp only [List.all_cons, List.all_nil, Bool.and_true] at hs
  refine PS.imp (ps_expr (pe_bm F.plainAttrs_list F.slot_list_pop F.type_list_pop mt_popAt ho ha.val (base_of hb _ _ _) (few_of ha.star (by simp)) hline (star_cons hs _ _) rfl) rfl) ?_
  rintro En σ H ⟨B, Dz, F, s, R, c⟩
  rw [evS] at c
  split at c
  case h_2 => exact c.elim
  rename_i ks hk
  simp only at c
  split at c
  case isTrue => exact c.elim
  rename_i hni2
  have hi : i ∉ E.muts e := by simpa using hni2
  split at c
  case h_2 => exact c.elim
  rename_i r s1 e1
  split at c
  case h_2 => exact c.elim
  rename_i z ez
  generalize hch : chg s1 i ks (popF z) = oc at c
  rcases chg_ok hch with rfl | ⟨k, d, d', hs1, hu, rfl⟩
  · exact c.elim
  have hsi : s[i]? = some (.ow k d) := by rw [← (fr_E e1).2 i hi]; exact hs1
  have hl1 : i < s1.length := (List.getElem?_eq_some_iff.mp hs1).1
  refine pth_next R hk hl hsi hu hcl fun Dz1 F1 H1 u v k1 d1 d1' G1 t1 R1 hv sb => ?_
  have fe := sb.fe
  cases d1 with
  | lst xs =>
    simp only [popF] at fe
    split at fe
    case isFalse => cases fe
    rename_i hz
    rw [Option.map_eq_some_iff] at fe
    obtain ⟨j, ej, rfl⟩ := fe
    obtain ⟨q, vq, eu, hq⟩ : ∃ (q : Addr) (vq : List V), u = .ref q ∧ H1 q = some (.lst vq) := by
      have := sb.rp
      cases this with
      | lo h r => exact ⟨_, _, rfl, h⟩
    subst eu
    refine ⟨tyl hq, tAs.next cf io R1 (evAs_one e1 hni) fun Dz2 F2 H2 ws G t2 R2 o2 g2 => ?_⟩
    obtain ⟨w, rfl, o3⟩ := o2.one
    obtain rfl := o3.int ez
    have mm : E.mutss [e] = E.muts e := by simp [E.mutss]
    rw [mm] at t2 g2
    have t0 : Tr (i :: E.muts e) Dz F H Dz2 F2 H2 := (t1.trans t2).mono fun j hj => by simp at hj ⊢; exact .inr hj
    obtain ⟨vs, h2, hlen, fin⟩ := pop_fin (M := E.muts e) (M0 := i :: E.muts e) R1 hv sb hi t2 R2 hl1 (by simp) t0 c
    rw [hlen] at ej
    have hj : j < vs.length := by
      unfold place at ej
      split at ej
      · split at ej
        · cases ej; omega
        · cases ej
      · split at ej
        · cases ej; omega
        · cases ej
    exact ⟨q, vs, z, j, vs[j], rfl, rfl, h2, by omega, by omega, by rw [place_seq]; exact ej, List.getElem?_eq_getElem hj, fin⟩
  | _ => simp only [popF] at fe; cases fe

/-! ### a part is stored -/
mutual
theorem nk_solid : ∀ {n : Nat} (k : Nat) {d : D}, nkOk n d = true → solid k d = true
  | _, 0, _, _ => rfl
  | n, k + 1, .tup xs, h => by
    cases n with
    | zero => simp [nkOk] at h
    | succ n =>
      rw [nkOk] at h
      simp only [solid, List.all_eq_true]
      exact nks_solid k h
  | _, _ + 1, .non, _ => rfl
  | _, _ + 1, .int _, _ => rfl
  | _, _ + 1, .str _, _ => rfl
  | n, _ + 1, .bl _, h => by cases n <;> simp [nkOk] at h
  | n, _ + 1, .lst _, h => by cases n <;> simp [nkOk] at h
  | n, _ + 1, .dct _, h => by cases n <;> simp [nkOk] at h
  | n, _ + 1, .scr _, h => by cases n <;> simp [nkOk] at h
  | n, _ + 1, .ins _ _, h => by cases n <;> simp [nkOk] at h
  | n, _ + 1, .dcn _, h => by cases n <;> simp [nkOk] at h
theorem nks_solid : ∀ {n : Nat} (k : Nat) {xs : List D}, nkOks n xs = true → ∀ x ∈ xs, solid k x = true
  | _, _, [], _, _, m => by cases m
  | n, k, x :: xs, h, y, m => by
    rw [nkOks, Bool.and_eq_true] at h
    have a := nk_solid k h.1
    have b := nks_solid k h.2
    rcases List.mem_cons.mp m with e | m
    · rw [e]; exact a
    · exact b y m
end
theorem tup_ref {K : PySem.W.Frag} {H : Hp} {Dz : Addr → Prop} {k : Nat} {xs : List D} {v : V} {G : List Addr} (h : Rp K H Dz k (.tup xs) v G) : ∃ b, v = .ref b := by
  cases h with
  | tup _ _ => exact ⟨_, rfl⟩
theorem nk_any {key : D} {q : NestedKey} (hq : nkD key = some q) : ∀ {ks : List D} {xs : List (NestedKey × Addr)}, nkDs ks = some (xs.map (·.1)) → (ks.any fun x => D.eqv x key) = xs.any fun x => NestedKey.beq x.1 q
  | [], xs, h => by
    cases xs with
    | nil => rfl
    | cons _ _ => simp [nkDs] at h
  | k :: ks, xs, h => by
    rw [nkDs, Option.bind_eq_some_iff] at h
    obtain ⟨a, h1, h⟩ := h
    rw [Option.map_eq_some_iff] at h
    obtain ⟨r, h2, h3⟩ := h
    cases xs with
    | nil => cases h3
    | cons x xs =>
      rw [List.map_cons] at h3
      injection h3 with h3 h4
      subst h3 h4
      rw [List.any_cons, List.any_cons, nk_eqv k key h1 hq, nk_any hq h2]
theorem nkDs_snoc {k : D} {q : NestedKey} {b : Addr} (hq : nkD k = some q) : ∀ {ks : List D} {qs : List NestedKey}, nkDs ks = some qs → nkDs (ks ++ [k]) = some (qs ++ [q])
  | [], qs, h => by
    cases h
    rw [List.nil_append, nkDs, hq]; rfl
  | x :: ks, qs, h => by
    rw [nkDs, Option.bind_eq_some_iff] at h
    obtain ⟨a, h1, h⟩ := h
    rw [Option.map_eq_some_iff] at h
    obtain ⟨r, h2, rfl⟩ := h
    rw [List.cons_append, nkDs, h1, nkDs_snoc (b := b) hq h2]
    rfl
theorem nkDs_at : ∀ {ks : List D} {qs : List NestedKey} {n : Nat} {q : NestedKey}, nkDs ks = some qs → qs[n]? = some q → ∃ k, ks[n]? = some k ∧ nkD k = some q
  | [], qs, n, q, h, e => by
    cases h
    simp at e
  | x :: ks, qs, n, q, h, e => by
    rw [nkDs, Option.bind_eq_some_iff] at h
    obtain ⟨a, h1, h⟩ := h
    rw [Option.map_eq_some_iff] at h
    obtain ⟨r, h2, rfl⟩ := h
    cases n with
    | zero =>
      simp at e
      subst e
      exact ⟨x, rfl, h1⟩
    | succ n =>
      obtain ⟨k, e1, e2⟩ := nkDs_at h2 (by simpa using e)
      exact ⟨k, by simpa using e1, e2⟩
def rSetA (K : PySem.W.Frag) : TSet := fun o i v H Q => rSetL o i v H Q ∨ rSetD o i v H Q ∨ rSetN K o i v H Q
theorem set_any (hw : PWc.w = some X.w) (hu : X.A.units + 100 < cLine) : PSet X (rSetA X.K) := by
  intro pins s σ H o i v ov iv u Q I ro ri rv h
  rcases h with h | h | h
  · exact set_list pins s σ H o i v ov iv u Q I ro ri rv h
  · exact set_dict (by omega) pins s σ H o i v ov iv u Q I ro ri rv h
  · exact set_nest hw hu pins s σ H o i v ov iv u Q I ro ri rv h
theorem swap_sub {o i : Expr} {pos : Pos} {e : Expr} {l : Nat} {env : Env} : swapsWithSole [.Subscript o i pos] e l env = pure false := by
  show swapsWith e (some (.Subscript o i pos)) l env = pure false
  unfold swapsWith
  cases e <;> rfl
theorem good_put {i : Nat} {p : List E} {ka e : E} {o pk a : Expr} {spos pos : Pos} (hw : PWc.w = some X.w) (hu : X.A.units + 100 < cLine) (ho : PE X o (tPth cf io X.K i p)) (hl : p.length ≤ 1) (hcl : ∀ c f, p = [E.fk c f] → ∀ C, ClsAt X.K c C → Cls X.K C ∧ NoAttr X.K C (Str.ofString f)) (hk0 : Good cf io X ka pk) (hpi : plainIxB pk = true) (ha : Good cf io X e a) :
    PS X (.Assign [.Subscript o pk spos] a pos) (tS cf io n X.K (.put i p ka e)) := by
  refine PS.imp (ps_asg ha.val (pg_sub ho hk0.val (set_any hw hu) (assign_sub hpi)) swap_sub rfl rfl) ?_
  rintro En σ H ⟨B, Dz, F, s, R, c⟩
  rw [evS] at c
  split at c
  case h_2 => exact c.elim
  rename_i r s1 e1
  split at c
  case h_2 => exact c.elim
  rename_i ks hk
  split at c
  case isTrue => exact c.elim
  rename_i hclz
  rw [not_or] at hclz
  have hi : i ∉ E.muts ka := by simpa using hclz.2
  have hc2 : clash r.src (E.muts ka) = false := by simpa using hclz.1
  split at c
  case h_2 => exact c.elim
  rename_i q s2 e2
  generalize hch : chg s2 i ks (putF q.d r) = oc at c
  rcases chg_ok hch with rfl | ⟨k, d, d', hs2, hu2, rfl⟩
  · exact c.elim
  have hsi : s1[i]? = some (.ow k d) := by rw [← (fr_E e2).2 i hi]; exact hs2
  have hl1 : i < s2.length := (List.getElem?_eq_some_iff.mp hs2).1
  refine tE.next cf io R e1 fun Dz0 F0 H0 v0 G0 t0 R0 o0 g0 => ?_
  refine pth_next R0 hk hl hsi hu2 hcl fun Dz1 F1 H1 u v k1 d1 d1' G1 t1 R1 hv sb => ?_
  refine tE.next cf io R1 e2 fun Dz2 F2 H2 w G2 t2 R2 o2 g2 => ?_
  have oV := (o0.tr R0 t1 (by unfold clash; rw [List.any_eq_false]; intro j _; simp)).tr R1 t2 hc2
  have tt : Tr (i :: (E.muts ka ++ E.muts e)) Dz F H Dz2 F2 H2 := ((t0.trans t1).trans t2).mono fun j hj => by simp at hj ⊢; grind
  have gV : ∀ a ∈ G0, H a = none ∨ ∃ j ∈ i :: (E.muts ka ++ E.muts e), a ∈ F j := fun a m => (g0 a m).imp id fun ⟨j, hj, z⟩ => ⟨j, by simp [hj], z⟩
  have fe := sb.fe
  cases d1 with
  | lst xs =>
    simp only [putF] at fe
    split at fe
    case h_2 => cases fe
    rename_i z ez
    rw [Option.bind_eq_some_iff] at fe
    obtain ⟨j, ej, fe⟩ := fe
    rw [Option.map_eq_some_iff] at fe
    obtain ⟨dd, ed, rfl⟩ := fe
    obtain ⟨pq, vq, eu, hq⟩ : ∃ (q : Addr) (vq : List V), u = .ref q ∧ H1 q = some (.lst vq) := by
      have := sb.rp
      cases this with
      | lo h r => exact ⟨_, _, rfl, h⟩
    subst eu
    obtain rfl := o2.int ez
    obtain ⟨vs, h1, h2, hlen, fin⟩ := lst_put (M := E.muts ka) R1 hv sb hi t2 R2 hl1 oV ed (M0 := i :: (E.muts ka ++ E.muts e)) (fun j hj => by simp [hj]) (by simp) tt gV c
    refine .inl ⟨pq, vs, z, j, rfl, rfl, h2, by rw [← place_ix, ← hlen]; exact ej, fin _ fun H' Dz' G L' r1 r2 nd _ => ?_⟩
    have hj : j < xs.length := by
      unfold place at ej
      split at ej
      · split at ej
        · cases ej; omega
        · cases ej
      · split at ej
        · cases ej; omega
        · cases ej
    obtain ⟨A, L, C, rfl, rr⟩ := r1.set hj r2
    refine ⟨A ++ L' ++ C, rr, ?_, fun a m => by simp at m ⊢; grind⟩
    have pm : (A ++ L' ++ C).Perm ((A ++ C) ++ L') := by
      rw [List.append_assoc, List.append_assoc]
      exact List.Perm.append_left A List.perm_append_comm
    refine pm.nodup_iff.mpr (nd.sublist ?_)
    refine List.Sublist.append ?_ (List.Sublist.refl _)
    rw [List.append_assoc]
    exact (List.Sublist.refl A).append (List.sublist_append_right _ _)
  | dct kvs =>
    simp only [putF] at fe
    split at fe
    · rename_i hh
      obtain ⟨hkey, hbig, hks⟩ := hh
      rw [Option.map_eq_some_iff] at fe
      obtain ⟨dd, ed, rfl⟩ := fe
      obtain ⟨b1, b2, b3, b4⟩ := poke_ok R1 hv sb hi t2 R2 hl1
      have sbn := sb.nd
      obtain ⟨pq, es, G1', eu, eG, hq, kl, rr⟩ : ∃ (q : Addr) (es : List (L2.Key × V)) (G1' : List Addr), u = .ref q ∧ G1 = q :: G1' ∧ H2 q = some (.dK es) ∧ KeyL kvs es ∧ Rps X.K H2 Dz2 k1 (kvs.map (·.2)) (es.map (·.2)) G1' := by
        cases b1 with
        | do_ h kl r => exact ⟨_, _, _, rfl, rfl, h, kl, r⟩
      subst eu eG
      obtain ⟨ky, hy⟩ := keyOk_of hkey
      obtain ⟨Gk, pk2⟩ := o2.rp
      have ew := keyV pk2 hy
      have hf := key_fit pk2
      obtain ⟨G0', N, f0, f2, f3, f4⟩ := oV.fit ed
      have edd : dd = r.d := by
        cases r with
        | ow k d => unfold RV.fit at ed; simp only at ed; split at ed <;> cases ed; rfl
        | bo src k d => cases ed
      have f1 : Rp X.K H2 (Or Dz2 N) k1 dd v0 [] := by
        rcases hks with rfl | hks
        · obtain rfl := f0.nil0
          exact f0
        · have := f0.unsolid (by rw [edd]; exact hks)
          exact this.solid (by rw [edd]; exact hks)
      have og := oV.out
      have pF : pq ∈ F2 i := b2 pq (by simp)
      have pN : ∀ a ∈ N, a ≠ pq := fun a m e => (og.2 a (f3.subset m)).2.2.1 i (by rw [e]; exact pF)
      have pz : ¬ Or Dz2 N pq := fun z => z.elim (b3 pq (by simp)) fun m => pN pq m rfl
      rw [List.nodup_cons] at sbn
      obtain ⟨pp1, F', pp2, pp3⟩ := put_okS hy hf f1 kl (rr.more fun _ z => .inl z)
      have el : kvs.length = es.length := by have := rr.len; simpa using this
      obtain ⟨G3, Rn, g3⟩ := b4 pq (.dK (putK es ky v0)) N (pq :: F') (by simp) (fun a m => ⟨(og.2 a (f3.subset m)).2.2.1, tracked (og.2 a (f3.subset m)).2.2.2⟩) (.do_ upd_same pp1 (pp2.updp hq True.intro pz fun m => sbn.1 (pp3.subset m))) (List.nodup_cons.mpr ⟨fun m => sbn.1 (pp3.subset m), sbn.2.sublist pp3⟩) fun a m => .inl (by
        rcases List.mem_cons.mp m with rfl | m
        · simp
        · simp [pp3.subset m])
      refine .inr (.inl ⟨pq, _, rfl, .inl ⟨es, ky, hq, ew, by rw [← el, ← big_size]; exact hbig, rfl⟩, ?_⟩)
      have inM : ∀ {a : Addr}, a ∈ F2 i → H a = none ∨ ∃ j ∈ i :: (E.muts ka ++ E.muts e), a ∈ F j := fun {a} m => tt.fn i a (by simp) m
      refine c (Or Dz2 N) (fset F2 i G3) _ σ (tt.poke (by simp) (inM pF) (by rw [hq]; exact True.intro) (fun a m => gV a (f3.subset m)) fun a m => ?_) Rn (SigI.refl _ _)
      rcases g3 a m with z | z
      · exact inM z
      · refine inM (b2 a ?_)
        rcases List.mem_cons.mp z with rfl | z
        · simp
        · simp [pp3.subset z]
    · split at fe
      case isFalse => cases fe
      rename_i hh
      obtain ⟨hemp, hnk⟩ := hh
      split at fe
      case h_2 => cases fe
      rename_i ed
      cases fe
      obtain rfl : kvs = [] := by simpa using hemp
      obtain ⟨b1, b2, b3, b4⟩ := poke_ok R1 hv sb hi t2 R2 hl1
      obtain ⟨pq, eu, eG, hq⟩ : ∃ (q : Addr), u = .ref q ∧ G1 = [q] ∧ H2 q = some (.dK []) := by
        cases b1 with
        | @do_ _ a es _ G h kl r =>
          have : es = [] := by
            cases es with
            | nil => rfl
            | cons _ _ => have := kl.1; simp at this
          subst this
          cases r
          exact ⟨_, rfl, rfl, h⟩
      subst eu eG
      obtain ⟨Gk, pk2⟩ := o2.rp
      obtain ⟨qs, hqk, h8, xs, exs⟩ := nkT_some hnk
      obtain ⟨b, eb⟩ : ∃ b, w = .ref b := tup_ref (exs ▸ pk2)
      subst eb
      obtain rfl : v0 = .bl true := oV.bl ed
      have pF : pq ∈ F2 i := b2 pq (by simp)
      have pz : ¬ Dz2 pq := b3 pq (by simp)
      -- the key's own places are given away
      have gvn : ∃ N : List Addr, Rp X.K H2 (Or Dz2 N) 0 q.d (.ref b) [] ∧ (∀ a ∈ N, (∀ j, a ∉ F2 j) ∧ H2 a ≠ none) ∧ ∀ a ∈ N, H a = none ∨ ∃ j ∈ i :: (E.muts ka ++ E.muts e), a ∈ F j := by
        have hso : ∀ n : Nat, solid n q.d = true := fun n => by rw [exs] at hnk ⊢; exact nk_solid (n := 8) n (by simpa [nkT, nkOk] using hnk)
        exact ⟨[], (pk2.unsolid (hso _)).more fun _ z => .inl z, (fun _ m => by cases m), fun _ m => by cases m⟩
      obtain ⟨N, kr, n1, n2⟩ := gvn
      have pN : pq ∉ N := fun m => (n1 pq m).1 i pF
      have pz2 : ¬ Or Dz2 N pq := fun z => z.elim pz pN
      have nbe : putN [] (.tup qs) b = [(.tup qs, b)] := rfl
      obtain ⟨G3, Rn, g3⟩ := b4 pq (DNo pq [(.tup qs, b)]) N [pq] (by simp) n1 (.no_ (F := []) upd_same (by rw [nkDs, hqk]; rfl) (fun x m => by rw [List.mem_singleton.mp m]; exact hnk) (Rps.cons (F := []) (G := []) (kr.updp hq True.intro pz2 (by simp)) .nil)) (by simp) fun a m => .inl m
      refine .inr (.inr ⟨pq, b, Dz2, _, q.d, .tup qs, _, [], rfl, rfl, rfl, pk2, hqk, h8, .inl ⟨hq, rfl⟩, by simp [sizeLine_eq], ?_⟩)
      rw [nbe]
      have inM : ∀ {a : Addr}, a ∈ F2 i → H a = none ∨ ∃ j ∈ i :: (E.muts ka ++ E.muts e), a ∈ F j := fun {a} m => tt.fn i a (by simp) m
      refine c (Or Dz2 N) (fset F2 i G3) _ σ (tt.poke (by simp) (inM pF) (by rw [hq]; exact True.intro) n2 fun a m => ?_) Rn (SigI.refl _ _)
      rcases g3 a m with z | z
      · exact inM z
      · exact inM (b2 a z)
  | dcn ks0 =>
    simp only [putF] at fe
    split at fe
    case isFalse => cases fe
    rename_i hh
    obtain ⟨hnk, hbig⟩ := hh
    split at fe
    case h_2 => cases fe
    rename_i ed
    cases fe
    obtain ⟨b1, b2, b3, b4⟩ := poke_ok R1 hv sb hi t2 R2 hl1
    obtain ⟨pq, xs0, eu, eG, hq, hnl, hall, rr⟩ : ∃ (q : Addr) (xs : List (NestedKey × Addr)), u = .ref q ∧ G1 = [q] ∧ H2 q = some (DNo q xs) ∧ nkDs ks0 = some (xs.map (·.1)) ∧ (∀ k ∈ ks0, nkT k = true) ∧ Rps X.K H2 Dz2 0 ks0 (xs.map fun x => .ref x.2) [] := by
      cases b1 with
      | no_ h e l r =>
        obtain rfl := r.nil0
        exact ⟨_, _, rfl, rfl, h, e, l, r⟩
    subst eu eG
    obtain ⟨Gk, pk2⟩ := o2.rp
    obtain ⟨qs, hqk, h8, xs, exs⟩ := nkT_some hnk
    obtain ⟨b, eb⟩ : ∃ b, w = .ref b := tup_ref (exs ▸ pk2)
    subst eb
    obtain rfl : v0 = .bl true := oV.bl ed
    have pF : pq ∈ F2 i := b2 pq (by simp)
    have pz : ¬ Dz2 pq := b3 pq (by simp)
    have hso : ∀ n : Nat, solid n q.d = true := fun n => by rw [exs] at hnk ⊢; exact nk_solid (n := 8) n (by simpa [nkT, nkOk] using hnk)
    have kr : Rp X.K H2 Dz2 0 q.d (.ref b) [] := pk2.unsolid (hso _)
    have lenx : ks0.length = xs0.length := by have := rr.len; simpa using this
    have hany : (ks0.any fun x => D.eqv x q.d) = xs0.any fun x => NestedKey.beq x.1 (.tup qs) := nk_any hqk hnl
    have items : nkDs (addN ks0 q.d) = some ((putN xs0 (.tup qs) b).map (·.1)) ∧ (∀ k ∈ addN ks0 q.d, nkT k = true) ∧ Rps X.K H2 Dz2 0 (addN ks0 q.d) ((putN xs0 (.tup qs) b).map fun x => .ref x.2) [] := by
      unfold addN putN
      rw [hany]
      split
      · exact ⟨hnl, hall, rr⟩
      · refine ⟨?_, fun k m => ?_, ?_⟩
        · rw [List.map_append]
          exact nkDs_snoc (b := b) hqk hnl
        · rcases List.mem_append.mp m with m | m
          · exact hall k m
          · rw [List.mem_singleton.mp m]; exact hnk
        · rw [List.map_append]
          exact rr.app0 (Rps.one0 kr)
    obtain ⟨i1, i2, i3⟩ := items
    have pz2 : ¬ Or Dz2 [] pq := fun z => z.elim pz fun m => by cases m
    obtain ⟨G3, Rn, g3⟩ := b4 pq (DNo pq (putN xs0 (.tup qs) b)) [] [pq] (by simp) (fun _ m => by cases m) (.no_ (F := []) upd_same i1 i2 ((i3.more fun _ z => .inl z).updp hq True.intro pz2 (by simp))) (by simp) fun a m => .inl m
    refine .inr (.inr ⟨pq, b, Dz2, _, q.d, .tup qs, _, xs0, rfl, rfl, rfl, pk2, hqk, h8, .inr ⟨hq, fun x m => ?_⟩, by rw [← lenx, ← big_size]; exact hbig, ?_⟩)
    · obtain ⟨n, hn⟩ := List.mem_iff_getElem?.mp m
      obtain ⟨k', e1, e2⟩ := nkDs_at hnl (by rw [List.getElem?_map, hn]; rfl)
      obtain ⟨v', G', e3, e4, _⟩ := rr.at e1
      rw [List.getElem?_map, hn] at e3
      cases e3
      obtain ⟨qs', e5, e6, _⟩ := nkT_some (hall k' (List.mem_of_getElem? e1))
      rw [e2] at e5
      have e7 : x.1 = .tup qs' := Option.some.inj e5
      exact ⟨0, k', G', e4, by rw [e2], by rw [e7]; exact e6⟩
    have inM : ∀ {a : Addr}, a ∈ F2 i → H a = none ∨ ∃ j ∈ i :: (E.muts ka ++ E.muts e), a ∈ F j := fun {a} m => tt.fn i a (by simp) m
    refine c (Or Dz2 []) (fset F2 i G3) _ σ (tt.poke (by simp) (inM pF) (by rw [hq]; exact True.intro) (fun _ m => by cases m) fun a m => ?_) Rn (SigI.refl _ _)
    rcases g3 a m with z | z
    · exact inM z
    · exact inM (b2 a z)
  | _ => simp only [putF] at fe; cases fe
end Ti
end

section
/-! a walk through a list whose items are changed in place -/
namespace Ti
open PySem PySem.Spec PyProof.Rows L2
variable [PWc]
variable {cf : Nat → List Arg → Rs} {io : List Nat} {n : Nat} {X : Cx}
section
variable {K : PySem.W.Frag} {H H' : Hp} {Dz Dz' : Addr → Prop}
theorem Rps.parts {k : Nat} : ∀ {xs : List D} {vs : List V} {G : List Addr} {m : Nat} {d : D}, Rps K H Dz k xs vs G → xs[m]? = some d →
    ∃ A L C w, G = A ++ L ++ C ∧ vs[m]? = some w ∧ Rp K H Dz k d w L ∧ Rps K H Dz k (xs.take m) (vs.take m) A ∧ Rps K H Dz k (xs.drop (m + 1)) (vs.drop (m + 1)) C
  | _, _, _, m, d, .nil, e => by simp at e
  | _, _, _, 0, d, .cons (F := L) (G := G) h r, e => by
    simp at e; subst e
    exact ⟨[], L, G, _, by simp, rfl, h, .nil, r⟩
  | _, _, _, m + 1, d, .cons (F := L0) (G := G) h r, e => by
    obtain ⟨A, L, C, w, e1, e2, q1, q2, q3⟩ := Rps.parts (m := m) r (by simpa using e)
    exact ⟨L0 ++ A, L, C, w, by rw [e1]; simp, by simpa using e2, q1, .cons h q2, q3⟩
theorem Rps.joins {k : Nat} : ∀ {xs ys : List D} {vs ws : List V} {A C : List Addr}, Rps K H Dz k xs vs A → Rps K H Dz k ys ws C → Rps K H Dz k (xs ++ ys) (vs ++ ws) (A ++ C)
  | _, _, _, _, _, _, .nil, r => r
  | _, _, _, _, _, _, .cons h t, r => by
    rw [List.append_assoc]
    exact .cons h (Rps.joins t r)
theorem list_mid {α : Type} {xs : List α} {m : Nat} {d : α} (h : xs[m]? = some d) : xs = xs.take m ++ d :: xs.drop (m + 1) := by
  have hm : m < xs.length := (List.getElem?_eq_some_iff.mp h).1
  have e : xs[m] = d := (List.getElem?_eq_some_iff.mp h).2
  rw [← e, ← List.drop_eq_getElem_cons hm, List.take_append_drop]
theorem set_mid {α : Type} {xs : List α} {m : Nat} {d e : α} (h : xs[m]? = some d) : xs.set m e = xs.take m ++ e :: xs.drop (m + 1) := by
  have hm : m < xs.length := (List.getElem?_eq_some_iff.mp h).1
  exact List.set_eq_take_append_cons_drop.trans (if_pos hm)
end
/-- one turn's ends -/
theorem fm_step {i j : Nat} {f : Sl → Out} {c m k : Nat} {s : Sl} {xs : List D} {d : D} (hs : s[j]? = some (.ow (k + 2) (.lst xs))) (hd : xs[m]? = some d) :
    fmGo i j f (c + 1) m s = .no ∨ ∃ s1 d', (f ((s.set j .no).set i (.ow (k + 1) d)) = .nx s1 ∨ f ((s.set j .no).set i (.ow (k + 1) d)) = .ct s1) ∧ s1[i]? = some (.ow (k + 1) d') ∧ s1[j]? = some .no ∧
      fmGo i j f (c + 1) m s = fmGo i j f c (m + 1) ((s1.set i .no).set j (.ow (k + 2) (.lst (xs.set m d')))) := by
  simp only [fmGo, hs, hd]
  generalize f ((s.set j .no).set i (.ow (k + 1) d)) = o
  cases o with
  | nx s1 =>
    simp only
    split
    · rename_i k' d' e1 e2
      split
      · rename_i hk
        subst hk
        exact .inr ⟨s1, d', .inl rfl, e1, e2, rfl⟩
      · exact .inl rfl
    · exact .inl rfl
  | ct s1 =>
    simp only
    split
    · rename_i k' d' e1 e2
      split
      · rename_i hk
        subst hk
        exact .inr ⟨s1, d', .inr rfl, e1, e2, rfl⟩
      · exact .inl rfl
    · exact .inl rfl
  | _ => exact .inl rfl
theorem good_fom {i j : Nat} {b : List S} {x y : Str} {p1 p2 pos : Pos} {pb : List Stmt} (hp : PassesOwn (model X.prog X.w) X.A X.env X.xe) (hc : X.calm = true) (hN : X.N.Nodup) (hi : X.N[i]? = some x) (hx : Loc X.env.scope x) (hf : X.fn x = true ∨ X.env.scope.names.lookup x = some .local)
    (hj : X.N[j]? = some y) (hv : Vis X.env.scope y) (hd : (y == ("__debug__" : Str)) = false) (hcd : (y == ("__classdict__" : Str)) = false) (hb : PSs X pb (tSs cf (i :: j :: io) n X.K b))
    (hs : ∀ z, foldedSetIterable (.Name y p2) X.env z = pure z) : PS X (.For (.Name x p1) (.Name y p2) pb [] pos) (tS cf io n X.K (.fom i j b)) := by
  refine PS.imp (ps_for hp hc (pi_list (pe_var hj hv hd hcd)) (pg_name hN hi hx hf) hb hs) ?_
  rintro En σ H ⟨B, Dz, F, s, R, c⟩
  rw [evS] at c
  split at c
  case isTrue => exact c.elim
  rename_i hcond
  have hij : i ≠ j := fun e => hcond (.inl e)
  have hio : i ∉ io := fun e => hcond (.inr (.inl (by simpa using e)))
  have hjo : j ∉ io := fun e => hcond (.inr (.inr (.inl (by simpa using e))))
  have hil : i < s.length := by
    have : ¬ s.length ≤ i := fun e => hcond (.inr (.inr (.inr e)))
    omega
  split at c
  case h_2 => exact c.elim
  rename_i k0 xs0 hs0
  obtain ⟨v, hvj, rj⟩ := R.sl j _ hs0
  obtain ⟨a, rfl⟩ : ∃ a, v = .ref a := by
    generalize F j = L at rj
    cases rj
    exact ⟨_, rfl⟩
  obtain ⟨vs, G0, eG0, ha, r0⟩ := rj.lo_inv
  have sq : ∀ {H : Hp}, H a = some (.lst vs) → SqL X.K H a vs := fun h => .of h
  refine ⟨.ref a, hvj, a, rfl, ⟨vs, sq ha⟩, ?_⟩
  have hln : xs0.length = vs.length := r0.len
  have R1 : Rel X.K B Dz (fset F i []) (s.set i .no) σ H := R.put hil rfl (fun _ _ => rfl) fset_same .nil fun _ m => by cases m
  have t1 : Tr (i :: j :: S.mutss b) Dz F H Dz (fset F i []) H := ⟨fun _ z => z, fun _ z => .inl z, fun _ _ e _ => e, fun _ _ e _ => e, fun l hl => fset_ne fun z => hl (by simp [z]), fun l a hl m => by
    rcases fset_in m with ⟨_, z⟩ | ⟨_, z⟩
    · cases z
    · exact .inr ⟨l, hl, z⟩⟩
  have mm : S.muts (.fom i j b) = i :: j :: S.mutss b := rfl
  rw [mm] at c
  have c1 := (c.mono (M1 := (i :: j :: S.mutss b) ++ (i :: j :: S.mutss b)) fun l hl => by grind).later t1 (SigI.refl io σ)
  have hs1 : (s.set i .no)[j]? = some (.ow (k0 + 2) (.lst xs0)) := by rw [List.getElem?_set_ne hij]; exact hs0
  refine ⟨fun m cnt σm Hm => cnt = vs.length - m ∧ m ≤ vs.length ∧ ∃ (Dm : Addr → Prop) (Fm : Nat → List Addr) (sm : Sl) (k : Nat) (xs : List D), Rel X.K B Dm Fm sm σm Hm ∧ Tr (i :: j :: S.mutss b) Dz F H Dm Fm Hm ∧ SigI io σ σm ∧ σm[j]? = some (some (.ref a)) ∧ Hm a = some (.lst vs) ∧ i < sm.length ∧
      sm[j]? = some (.ow (k + 2) (.lst xs)) ∧ Fine X.K io (i :: j :: S.mutss b) B Dm Fm σm Hm En (fmGo i j (evSs cf (i :: j :: io) n b) (vs.length - m) m sm),
    ⟨vs.length, by omega, by omega, Dz, fset F i [], s.set i .no, k0, xs0, R1, t1, SigI.refl _ _, hvj, ha, by rw [List.length_set]; exact hil, hs1, by rw [hln] at c1; exact c1⟩, ?_⟩
  rintro m cnt σm Hm ⟨rfl, hm, Dm, Fm, sm, k, xs, Rm, tm, gm, vj, ham, him, hsm, cm⟩
  by_cases hlt : m < vs.length
  · obtain ⟨v', hv', rp⟩ := Rm.sl j _ hsm
    rw [vj] at hv'
    cases hv'
    obtain ⟨vs', Gx, eG, ha', rx⟩ := rp.lo_inv
    rw [ham] at ha'
    cases ha'
    have hxl : xs.length = vs.length := rx.len
    obtain ⟨d, hd'⟩ : ∃ d, xs[m]? = some d := ⟨xs[m], List.getElem?_eq_getElem (by omega)⟩
    obtain ⟨A, L, C, w, eGx, hw, rL, rA, rC⟩ := rx.parts hd'
    have ecnt : vs.length - m = (vs.length - (m + 1)) + 1 := by omega
    rw [ecnt] at cm
    rcases fm_step (i := i) (f := evSs cf (i :: j :: io) n b) (c := vs.length - (m + 1)) hsm hd' with e0 | ⟨s3, d', es3, e1, e2, e3⟩
    · rw [e0] at cm
      exact cm.elim
    rw [e3] at cm
    refine .inr ⟨⟨vs, w, sq ham, hw⟩, fun σ' H' => ∃ m', m' < vs.length - m ∧ (m' = vs.length - (m + 1) ∧ m + 1 ≤ vs.length ∧ ∃ (Dm : Addr → Prop) (Fm : Nat → List Addr) (sm : Sl) (k : Nat) (xs : List D), Rel X.K B Dm Fm sm σ' H' ∧ Tr (i :: j :: S.mutss b) Dz F H Dm Fm H' ∧ SigI io σ σ' ∧ σ'[j]? = some (some (.ref a)) ∧ H' a = some (.lst vs) ∧ i < sm.length ∧
      sm[j]? = some (.ow (k + 2) (.lst xs)) ∧ Fine X.K io (i :: j :: S.mutss b) B Dm Fm σ' H' En (fmGo i j (evSs cf (i :: j :: io) n b) (vs.length - (m + 1)) (m + 1) sm)), fun σ' H' h => h, fun z H' hyl => ?_⟩
    obtain ⟨rfl, hz⟩ := hyl
    have := hz vs (sq ham)
    rw [hw] at this
    cases this
    -- the list's own places
    have ndG := Rm.nd j
    rw [eG, eGx] at ndG
    have inJ : ∀ {q : Addr}, q ∈ a :: (A ++ L ++ C) → q ∈ Fm j := fun {q} h => by rw [eG, eGx]; exact h
    have hjl : j < sm.length := (List.getElem?_eq_some_iff.mp hsm).1
    have Ra : Rel X.K B Dm (fset Fm j []) (sm.set j .no) σm H' := Rm.put hjl rfl (fun _ _ => rfl) fset_same .nil fun _ m => by cases m
    have hsig : i < σm.length := by rw [← Rm.len]; exact him
    have nL : L.Nodup := by
      rw [List.nodup_cons, List.nodup_append, List.nodup_append] at ndG
      exact ndG.2.1.2.1
    have Rb : Rel X.K B Dm (fset (fset Fm j []) i L) ((sm.set j .no).set i (.ow (k + 1) d)) (σm.set i (some w)) H' := by
      refine Ra.put (by rw [List.length_set]; exact him) (by rw [List.length_set]) (fun l hl => List.getElem?_set_ne fun e => hl e.symm) ⟨w, by rw [List.getElem?_set_self hsig], by rw [fset_same]; exact rL⟩ nL fun q hq => ?_
      have hqj : q ∈ Fm j := inJ (by simp [hq])
      refine ⟨Rm.dz j q hqj, Rm.bz j q hqj, fun l hl mq => ?_, Rm.mt j q hqj⟩
      rcases fset_in mq with ⟨_, z⟩ | ⟨h, z⟩
      · cases z
      · exact h (Rm.dj j l q hqj z).symm
    refine ⟨B, Dm, fset (fset Fm j []) i L, (sm.set j .no).set i (.ow (k + 1) d), Rb, ?_⟩
    -- behind the body
    have next : ∀ (Dz' : Addr → Prop) (F' : Nat → List Addr) (H2 : Hp) (σ' : L2.St), Tr (S.mutss b) Dm (fset (fset Fm j []) i L) H' Dz' F' H2 → Rel X.K B Dz' F' s3 σ' H2 → SigI (i :: j :: io) (σm.set i (some w)) σ' →
        ∃ m', m' < vs.length - m ∧ (m' = vs.length - (m + 1) ∧ m + 1 ≤ vs.length ∧ ∃ (Dm : Addr → Prop) (Fm : Nat → List Addr) (sm : Sl) (k : Nat) (xs : List D), Rel X.K B Dm Fm sm σ' H2 ∧ Tr (i :: j :: S.mutss b) Dz F H Dm Fm H2 ∧ SigI io σ σ' ∧ σ'[j]? = some (some (.ref a)) ∧ H2 a = some (.lst vs) ∧ i < sm.length ∧
          sm[j]? = some (.ow (k + 2) (.lst xs)) ∧ Fine X.K io (i :: j :: S.mutss b) B Dm Fm σ' H2 En (fmGo i j (evSs cf (i :: j :: io) n b) (vs.length - (m + 1)) (m + 1) sm)) := by
      intro Dz' F' H2 σ' t R3 g3
      have F2i : fset (fset Fm j []) i L i = L := fset_same
      have F2j : fset (fset Fm j []) i L j = [] := by rw [fset_ne (fun e => hij e.symm), fset_same]
      have F2o : ∀ l, l ≠ i → l ≠ j → fset (fset Fm j []) i L l = Fm l := fun l h1 h2 => by rw [fset_ne h1, fset_ne h2]
      have F2in : ∀ {l : Nat} {q : Addr}, q ∈ fset (fset Fm j []) i L l → (l = i ∧ q ∈ L) ∨ (l ≠ i ∧ l ≠ j ∧ q ∈ Fm l) := fun {l q} h => by
        by_cases h1 : l = i
        · subst h1; rw [F2i] at h; exact .inl ⟨rfl, h⟩
        · by_cases h2 : l = j
          · subst h2; rw [F2j] at h; cases h
          · rw [F2o l h1 h2] at h; exact .inr ⟨h1, h2, h⟩
      -- those that stand aside
      have gh : ∀ {q : Addr}, q ∈ a :: (A ++ C) → q ∈ Fm j ∧ q ∉ L := fun {q} h => by
        refine ⟨inJ (by simp only [List.mem_cons, List.mem_append] at h ⊢; grind), fun hl => ?_⟩
        rw [List.nodup_cons, List.nodup_append, List.nodup_append] at ndG
        obtain ⟨n1, ⟨n2, n3, n4⟩, n5, n6⟩ := ndG
        rcases List.mem_cons.mp h with rfl | h
        · exact n1 (by simp [hl])
        · rcases List.mem_append.mp h with h | h
          · exact n4 q h q hl rfl
          · exact n6 q (by simp [hl]) q h rfl
      have nin : ∀ {q : Addr}, q ∈ a :: (A ++ C) → ∀ l, q ∉ fset (fset Fm j []) i L l := fun {q} h l hq => by
        have g := gh h
        rcases F2in hq with ⟨_, z⟩ | ⟨_, h2, z⟩
        · exact g.2 z
        · exact h2 (Rm.dj l j q z g.1)
      have trk : ∀ {q : Addr}, q ∈ Fm j → H' q ≠ none := fun {q} h => tracked (Rm.mt j q h)
      have keepG : ∀ {q : Addr} {o : HO}, q ∈ a :: (A ++ C) → H' q = some o → H2 q = some o := fun {q o} h e => t.keep q o e fun l _ => nin h l
      have ninF : ∀ {q : Addr}, q ∈ a :: (A ++ C) → ∀ l, q ∉ F' l := fun {q} h l hq => by
        rcases t.back hq with z | z | ⟨l', _, z⟩
        · exact nin h l z
        · exact trk (gh h).1 z
        · exact nin h l' z
      have ndz : ∀ {q : Addr}, q ∈ a :: (A ++ C) → ¬ Dz' q := fun {q} h z => by
        rcases t.new q z with z | z | ⟨l', _, z⟩
        · exact Rm.dz j q (gh h).1 z
        · exact trk (gh h).1 z
        · exact nin h l' z
      have mutG : ∀ {q : Addr}, q ∈ a :: (A ++ C) → Mut (H2 q) := fun {q} h => by
        have hm := Rm.mt j q (gh h).1
        cases e : H' q with
        | none => rw [e] at hm; cases hm
        | some o => rw [keepG h e]; rw [e] at hm; exact hm
      have ha2 : H2 a = some (.lst vs) := keepG (by simp) ham
      -- the item
      obtain ⟨w', hw', rw'⟩ := R3.sl i _ e1
      have : σ'[i]? = some (some w) := by
        rw [g3.2 i (by simp), List.getElem?_set_self hsig]
      rw [hw'] at this
      cases this
      have hj' : σ'[j]? = some (some (.ref a)) := by
        rw [g3.2 j (by simp), List.getElem?_set_ne hij]
        exact vj
      have kz : ∀ q o, H' q = some o → Dm q → H2 q = some o := fun q o e z => t.keep q o e fun l _ hq => by
        rcases F2in hq with ⟨_, y⟩ | ⟨_, _, y⟩
        · exact Rm.dz j q (inJ (by simp [y])) z
        · exact Rm.dz l q y z
      have rA2 := rA.stay t.dz t.nm kz fun q o e hq => keepG (by simp [hq]) e
      have rC2 := rC.stay t.dz t.nm kz fun q o e hq => keepG (by simp [hq]) e
      have rAll : Rps X.K H2 Dz' (k + 1) (xs.set m d') vs (A ++ (F' i ++ C)) := by
        rw [set_mid hd', list_mid hw]
        rw [list_mid hw] at rA2 rC2
        have ht : (vs.take m ++ w :: vs.drop (m + 1)).take m = vs.take m := by rw [← list_mid hw]
        have hdp : (vs.take m ++ w :: vs.drop (m + 1)).drop (m + 1) = vs.drop (m + 1) := by rw [← list_mid hw]
        rw [ht] at rA2
        rw [hdp] at rC2
        exact rA2.joins (.cons rw' rC2)
      have hi3 : i < s3.length := (List.getElem?_eq_some_iff.mp e1).1
      have hj3 : j < s3.length := (List.getElem?_eq_some_iff.mp e2).1
      have R4 : Rel X.K B Dz' (fset F' i []) (s3.set i .no) σ' H2 := R3.put hi3 rfl (fun _ _ => rfl) fset_same .nil fun _ m => by cases m
      have nAll : (a :: (A ++ (F' i ++ C))).Nodup := by
        have n0 := ndG
        rw [List.nodup_cons, List.nodup_append, List.nodup_append] at n0
        obtain ⟨n1, ⟨n2, n3, n4⟩, n5, n6⟩ := n0
        rw [List.nodup_cons, List.nodup_append, List.nodup_append]
        refine ⟨fun h => ?_, n2, ⟨R3.nd i, n5, fun q hq r hr e => ?_⟩, fun q hq r hr e => ?_⟩
        · rcases List.mem_append.mp h with h | h
          · exact n1 (by simp [h])
          · rcases List.mem_append.mp h with h | h
            · exact ninF (q := a) (by simp) i h
            · exact n1 (by simp [h])
        · subst e
          exact ninF (q := q) (by simp [hr]) i hq
        · subst e
          rcases List.mem_append.mp hr with h | h
          · exact ninF (q := q) (by simp [hq]) i h
          · exact n6 q (by simp [hq]) q h rfl
      have R5 : Rel X.K B Dz' (fset (fset F' i []) j (a :: (A ++ (F' i ++ C)))) ((s3.set i .no).set j (.ow (k + 2) (.lst (xs.set m d')))) σ' H2 := by
        refine R4.put (by rw [List.length_set]; exact hj3) rfl (fun _ _ => rfl) ⟨.ref a, hj', by rw [fset_same]; exact .lo ha2 rAll⟩ nAll fun q hq => ?_
        have hq' : q ∈ a :: (A ++ C) ∨ q ∈ F' i := by
          simp only [List.mem_cons, List.mem_append] at hq ⊢
          grind
        rcases hq' with h | h
        · exact ⟨ndz h, Rm.bz j q (gh h).1, fun l _ hl => by
            rcases fset_in hl with ⟨_, z⟩ | ⟨_, z⟩
            · cases z
            · exact ninF h l z, mutG h⟩
        · exact ⟨R3.dz i q h, R3.bz i q h, fun l _ hl => by
            rcases fset_in hl with ⟨_, z⟩ | ⟨h2, z⟩
            · cases z
            · exact h2 (R3.dj l i q z h), R3.mt i q h⟩
      -- what was done
      have lift : ∀ {q : Addr}, (∃ l ∈ S.mutss b, q ∈ fset (fset Fm j []) i L l) → ∃ l ∈ i :: j :: S.mutss b, q ∈ Fm l := fun {q} ⟨l, hl, h⟩ => by
        rcases F2in h with ⟨_, z⟩ | ⟨_, _, z⟩
        · exact ⟨j, by simp, inJ (by simp [z])⟩
        · exact ⟨l, by simp [hl], z⟩
      have tt : Tr (i :: j :: S.mutss b) Dm Fm H' Dz' (fset (fset F' i []) j (a :: (A ++ (F' i ++ C)))) H2 := by
        have fromF : ∀ {l : Nat} {q : Addr}, l ∈ i :: j :: S.mutss b → q ∈ F' l → H' q = none ∨ ∃ l ∈ i :: j :: S.mutss b, q ∈ Fm l := fun {l q} hl hq => by
          rcases t.back hq with z | z | z
          · rcases F2in z with ⟨_, y⟩ | ⟨_, _, y⟩
            · exact .inr ⟨j, by simp, inJ (by simp [y])⟩
            · exact .inr ⟨l, hl, y⟩
          · exact .inl z
          · exact .inr (lift z)
        refine ⟨t.dz, fun q z => (t.new q z).imp id (.imp id lift), fun q o e hk => t.keep q o e fun l hl hq => ?_, t.nm, fun l hl => ?_, fun l q hl hq => ?_⟩
        · obtain ⟨l', h1, h2⟩ := lift ⟨l, hl, hq⟩
          exact hk l' h1 h2
        · have h1 : l ≠ i := fun e => hl (by simp [e])
          have h2 : l ≠ j := fun e => hl (by simp [e])
          have h3 : l ∉ S.mutss b := fun e => hl (by simp [e])
          rw [fset_ne h2, fset_ne h1, t.fs l h3, F2o l h1 h2]
        · rcases fset_in hq with ⟨_, z⟩ | ⟨_, z⟩
          · have hq' : q ∈ a :: (A ++ C) ∨ q ∈ F' i := by
              simp only [List.mem_cons, List.mem_append] at z ⊢
              grind
            rcases hq' with h | h
            · exact .inr ⟨j, by simp, (gh h).1⟩
            · exact fromF (l := i) (by simp) h
          · rcases fset_in z with ⟨_, y⟩ | ⟨_, y⟩
            · cases y
            · exact fromF hl y
      have gσ : SigI io σm σ' := ⟨by rw [g3.1, List.length_set], fun l hl => by
        rw [g3.2 l (by simp [hl]), List.getElem?_set_ne (fun e => hio (by rw [e]; exact hl))]⟩
      refine ⟨vs.length - (m + 1), by omega, rfl, hlt, Dz', _, _, k, xs.set m d', R5, (tm.trans tt).mono fun l hl => by grind, gm.trans gσ, hj', ha2, by rw [List.length_set, List.length_set]; exact hi3, by rw [List.getElem?_set_self (by rw [List.length_set]; exact hj3)], ?_⟩
      exact (cm.mono (M1 := (i :: j :: S.mutss b) ++ (i :: j :: S.mutss b)) fun l hl => by grind).later tt gσ
    rcases es3 with es3 | es3
    · rw [es3]; exact next
    · rw [es3]; exact next
  · have hme : vs.length - m = 0 := by omega
    rw [hme] at cm
    exact .inl ⟨⟨vs, sq ham, by omega⟩, cm Dm Fm Hm σm (Tr.refl _) Rm (SigI.refl _ _)⟩
end Ti
end

section
/-! instances: fields read and stored, methods, making -/
namespace Ti
open PySem PySem.Spec PyProof.Rows L2
variable [PWc]
variable {cf : Nat → List Arg → Rs} {io : List Nat} {n : Nat} {X : Cx}

theorem good_fld {c f : String} {ea : E} {a : Expr} {pos : Pos} (ha : Good cf io X ea a) (hcl : ∀ C, ClsAt X.K c C → Cls X.K C ∧ NoAttr X.K C (Str.ofString f)) (hb : plainBase a = true) :
    Good cf io X (.fld c ea f) (.Attribute a (Str.ofString f) pos) := by
  refine .of (PE.imp (pe_fld ha.val (base_of hb _ _ _)) ?_) rfl
  rintro σ H Q ⟨B, Dz, F, s, R, r, s', h, cc⟩
  rw [evE] at h
  obtain ⟨r0, s1, e1, h⟩ := Ev.bind_ok h
  split at h
  case h_2 => cases h
  rename_i d ed
  cases h
  refine tE.next cf io R e1 fun Dz1 F1 H1 v G t1 R1 o1 g1 => ?_
  cases hd : r0.d with
  | ins c' fs =>
    rw [hd] at ed
    simp only [fldD] at ed
    split at ed
    case isFalse => cases ed
    rename_i ecc
    subst ecc
    cases r0 with
    | ow k x =>
      cases hd
      obtain ⟨p, C, dx, es, j, F0, rfl, q1, q2, q3, q4, q5, q6⟩ := o1.1.insI
      rcases look_fld (f := f) q3 q4 with ⟨z1, _⟩ | ⟨m, d', u, z1, z2, z3, z4, _, _⟩
      · rw [z1] at ed; cases ed
      rw [z1] at ed; cases ed
      obtain ⟨u', G', y1, y2, y3⟩ := q4.at z3
      rw [z4] at y1; cases y1
      obtain ⟨h1, h2⟩ := hcl C q2
      have sub := y3.trans q6
      refine ⟨p, C, dx, es, u, rfl, q1, h1, h2, z2, ?_⟩
      simp only [RV.elS] at cc
      split at cc
      · rename_i hd1
        obtain ⟨j', rfl⟩ : ∃ j', j = j' + 1 := ⟨j - 1, by omega⟩
        rw [← q5] at hd1
        obtain ⟨G2, p2, s2⟩ := y2.only1 hd1.2
        have sub := s2.trans sub
        exact cc Dz1 F1 H1 u G2 t1 R1 ⟨p2, o1.2.1.sublist sub, fun a m => o1.2.2 a (sub.subset m)⟩ fun a m => g1 a (sub.subset m)
      · exact cc Dz1 F1 H1 u G' t1 R1 ⟨by rw [← q5]; exact y2, o1.2.1.sublist sub, fun a m => o1.2.2 a (sub.subset m)⟩ fun a m => g1 a (sub.subset m)
    | bo src k x =>
      cases hd
      obtain ⟨_, G0, w1, w2⟩ := o1
      obtain ⟨p, C, dx, es, j, F0, rfl, q1, q2, q3, q4, q5, q6⟩ := w1.insI
      rcases look_fld (f := f) q3 q4 with ⟨z1, _⟩ | ⟨m, d', u, z1, z2, z3, z4, _, _⟩
      · rw [z1] at ed; cases ed
      rw [z1] at ed; cases ed
      obtain ⟨u', G', y1, y2, y3⟩ := q4.at z3
      rw [z4] at y1; cases y1
      obtain ⟨h1, h2⟩ := hcl C q2
      have sub := y3.trans q6
      refine ⟨p, C, dx, es, u, rfl, q1, h1, h2, z2, ?_⟩
      by_cases hk : k ≤ 1 ∨ solid (k - 1) d = true
      · simp only [RV.elS, if_pos hk] at cc
        rcases hk with hk | hk
        · have e0 : j = 0 := by omega
          rw [e0] at y2
          obtain rfl := y2.nil0
          exact cc.val t1 R1 y2
        · rw [← q5] at hk
          exact cc.val t1 R1 (y2.unsolid hk)
      · simp only [RV.elS, if_neg hk] at cc
        by_cases hd1 : deep 1 (k - 1) d = true
        · rw [if_pos hd1] at cc
          obtain ⟨j', rfl⟩ : ∃ j', j = j' + 1 := ⟨j - 1, by omega⟩
          rw [← q5] at hd1
          obtain ⟨G2, p2, s2⟩ := y2.only1 hd1
          exact cc Dz1 F1 H1 u [] t1 R1 ⟨rfl, G2, p2, fun a m => w2 a (sub.subset (s2.subset m))⟩ fun _ m => by cases m
        · rw [if_neg hd1] at cc
          exact cc Dz1 F1 H1 u [] t1 R1 ⟨rfl, G', by rw [← q5]; exact y2, fun a m => w2 a (sub.subset m)⟩ fun _ m => by cases m
  | _ => rw [hd] at ed; cases ed

/-- an instance: its place -/
theorem isC_at {K : PySem.W.Frag} {H : Hp} {Dz : Addr → Prop} {k : Nat} {c m : String} {d : D} {v : V} {G : List Addr} {C : Addr} (hC : ClsAt K c C) (e : isC c m d = true) (h : Rp K H Dz k d v G) : ∃ (a dx : Addr) (es : List (Str × V)), v = .ref a ∧ H a = some (.ins C dx es) ∧ es.lookup (Str.ofString m) = none := by
  cases d with
  | ins c' fs =>
    simp only [isC, Bool.and_eq_true, decide_eq_true_eq, Option.isNone_iff_eq_none] at e
    obtain ⟨rfl, e⟩ := e
    obtain ⟨p, C', dx, es, j, F0, rfl, q1, q2, q3, q4, _, _⟩ := h.insI
    obtain rfl := hC.eq q2
    rcases look_fld (f := m) q3 q4 with ⟨_, z, _⟩ | ⟨_, _, _, z1, _⟩
    · exact ⟨p, dx, es, rfl, q1, z⟩
    · rw [z1] at e; cases e
  | _ => cases e
/-- a def that may be called with n arguments, a method or not -/
structure CanF (cf : Nat → List Arg → Rs) (X : Cx) (g : Nat) (f : Addr) (n : Nat) : Prop where
  ex : ∃ (k : Nat) (fd : FuncData) (ps : List Str) (ds : List Value) (dvs : List V) (dfs : List D) (rs : List Arg → Rs) (np : Nat), FnOk X.prog X.w X.K X.mg X.base C8.CX0 k f fd ps (spD X.K np rs) ∧ Room k X.A ∧ Room (k + 1) X.A ∧
    Binds X.K fd ps ds ∧ Vals dvs ds ∧ (∀ as : List Arg, as.length = n → cf g as = rs (as ++ dfs.map (Arg.pv 0))) ∧ n + dfs.length = np ∧ ∀ H Dz, Rps X.K H Dz 0 dfs dvs []
/-- a method of a class -/
structure CanM (cf : Nat → List Arg → Rs) (X : Cx) (c m : String) (g n : Nat) : Prop where
  ex : ∃ (C f : Addr), ClsAt X.K c C ∧ Cls X.K C ∧ Meth X.K C (Str.ofString m) f ∧ CanF cf X g f n
/-- a class that may be made -/
structure CanC (cf : Nat → List Arg → Rs) (X : Cx) (c : String) (g n : Nat) : Prop where
  ex : ∃ (C f : Addr), ClsAt X.K c C ∧ X.mg (Str.ofString c) = some (.ref C) ∧ Mk X.K C f ∧ CanF cf X g f n

section
variable {g : Nat} {c m : String} {C f : Addr} {rs : List Arg → Rs} {dfs : List D} {dvs : List V} {np nn : Nat} {es : List E}
/-- o.m(..), o changed by it -/
theorem meth_io (hC : ClsAt X.K c C) (hrs : ∀ as : List Arg, as.length = nn → cf g as = rs (as ++ dfs.map (Arg.pv 0))) (hn : nn + dfs.length = np) (hd : ∀ H Dz, Rps X.K H Dz 0 dfs dvs []) {i : Nat} (hl : es.length + 1 = nn) :
    ∀ σ H Q, tE cf io X.K (.meth c m g (.io i :: es)) σ H Q → tMeth C (Str.ofString m) (spD X.K np rs) dvs C8.E0 (tVar i) (tAs cf io X.K es) σ H Q := by
  rintro σ H Q ⟨B, Dz, F, s, R, r, s', q, cc⟩
  rw [evE] at q
  obtain ⟨as0, s1, e1, q⟩ := Ev.bind_ok q
  have la := evAs_len e1
  have im := ios_muts e1
  rw [evAs] at e1
  split at e1
  case h_2 => cases e1
  rename_i k0 d0 hs
  obtain ⟨as, s2, e2, e1⟩ := Ev.bind_ok e1
  cases e1
  split at q
  case isFalse => cases q
  rename_i hself
  simp only [selfAv, hs] at hself
  split at q
  case h_2 => cases q
  rename_i vs ev
  split at q
  case isFalse => cases q
  rename_i hh
  obtain ⟨nd, hc⟩ := hh
  split at q
  case h_2 => cases q
  rename_i k d outs er
  split at q
  case h_2 => cases q
  rename_i s3 eo
  injection q with q1 q2
  subst q1 q2
  obtain ⟨v, hv, hr⟩ := R.sl i _ hs
  obtain ⟨a, dx, fes, rfl, h1, h2⟩ := isC_at hC hself hr
  refine ⟨.ref a, hv, a, dx, fes, rfl, h1, h2, ?_⟩
  refine tAs.next cf io R e2 fun Dz1 F1 H1 us G t1 R1 o1 g1 => ?_
  have lv := args_len ev
  have t2 : Tr (E.mutss (.io i :: es)) Dz F H Dz1 F1 H1 := t1.mono fun j hj => by simp [E.mutss, hj]
  have c2 : Cont X.K B σ (AV.ios (.io i :: as)) Dz1 F1 H1 s3 (.ow k d) Q := (cc.mono (M1 := E.mutss (.io i :: es) ++ AV.ios (.io i :: as)) fun j hj => (List.mem_append.mp hj).elim id (im j)).later t2
  exact call_core hn hd (by rw [la]; exact hl) R1 (.io hv o1) ev nd hc (by rw [← hrs vs (by rw [lv, la]; exact hl)]; exact er) eo c2
/-- o.m(..), o read -/
theorem meth_rv (hC : ClsAt X.K c C) (hrs : ∀ as : List Arg, as.length = nn → cf g as = rs (as ++ dfs.map (Arg.pv 0))) (hn : nn + dfs.length = np) (hd : ∀ H Dz, Rps X.K H Dz 0 dfs dvs []) {e : E} (hni : ∀ i, e ≠ .io i) (hl : es.length + 1 = nn) :
    ∀ σ H Q, tE cf io X.K (.meth c m g (e :: es)) σ H Q → tMeth C (Str.ofString m) (spD X.K np rs) dvs C8.E0 (tE cf io X.K e) (tAs cf io X.K es) σ H Q := by
  rintro σ H Q ⟨B, Dz, F, s, R, r, s', q, cc⟩
  rw [evE] at q
  obtain ⟨as0, s1, e1, q⟩ := Ev.bind_ok q
  have la := evAs_len e1
  have im := ios_muts e1
  rw [evAs] at e1
  case x_2 => exact hni
  obtain ⟨ra, s0, ea, e1⟩ := Ev.bind_ok e1
  split at e1
  · cases e1
  rename_i hcl
  obtain ⟨as, s2, e2, e1⟩ := Ev.bind_ok e1
  cases e1
  split at q
  case isFalse => cases q
  rename_i hself
  simp only [selfAv] at hself
  split at q
  case h_2 => cases q
  rename_i vs ev
  split at q
  case isFalse => cases q
  rename_i hh
  obtain ⟨nd, hc⟩ := hh
  split at q
  case h_2 => cases q
  rename_i k d outs er
  split at q
  case h_2 => cases q
  rename_i s3 eo
  injection q with q1 q2
  subst q1 q2
  refine tE.next cf io R ea fun Dz1 F1 H1 v G1 t1 R1 o1 g1 => ?_
  obtain ⟨_, hr⟩ := o1.rp
  obtain ⟨a, dx, fes, rfl, h1, h2⟩ := isC_at hC hself hr
  refine ⟨a, dx, fes, rfl, h1, h2, ?_⟩
  refine tAs.next cf io R1 e2 fun Dz2 F2 H2 us G2 t2 R2 o2 g2 => ?_
  have lv := args_len ev
  have t3 : Tr (E.mutss (e :: es)) Dz F H Dz2 F2 H2 := t1.trans t2
  have c2 : Cont X.K B σ (AV.ios (.rv ra :: as)) Dz2 F2 H2 s3 (.ow k d) Q := (cc.mono (M1 := E.mutss (e :: es) ++ AV.ios (.rv ra :: as)) fun j hj => (List.mem_append.mp hj).elim id (im j)).later t3
  refine call_core hn hd (by rw [la]; exact hl) R2 (.rv (o1.tr R1 t2 (by simpa using hcl)) o2 fun x m1 m2 => ?_) ev nd hc (by rw [← hrs vs (by rw [lv, la]; exact hl)]; exact er) eo c2
  cases ra with
  | bo src k d => rw [o1.1] at m1; cases m1
  | ow k d =>
    rcases g2 x m2 with z | ⟨i, hi, z⟩
    · exact tracked (o1.1.mut x m1) z
    · exact (o1.2.2 x m1).2.2 i z
end
end Ti
end

section
/-! instances: methods called, made; a field stored -/
namespace Ti
open PySem PySem.Spec PyProof.Rows L2
variable [PWc]
variable {cf : Nat → List Arg → Rs} {io : List Nat} {n : Nat} {X : Cx}
theorem clash_nil2' (src : List Nat) : clash src [] = false := by unfold clash; simp
/-- a method's call as it is reckoned -/
def MethTree (X : Cx) (o : Expr) (m : Str) (es : List Expr) (apos pos : Pos) (pl : Sem Bool) : Prop := eval (.Call (.Attribute o m apos) es [] pos) X.env = (do
      let ov ← eval o X.env
      standAt apos.atName
      let (f, first) ← holding [ov] (getMethod ov m pl)
      callWith pos f first (backTo pos (starEach es X.env)) (backToKw pos (keywordEach [] X.env)))
theorem meth_tree {o : Expr} {m : Str} {es : List Expr} {apos pos : Pos} (hb : plainBase o = true) (hs : es.all notStar = true) (hl : es.length < 30) (hline : (apos.endLine == pos.line) = true) : ∃ pl, MethTree X o m es apos pos pl := by
  have hbase := base_of hb m X.env (eval o X.env)
  have hform : methodCallForm (es.length + ([] : List Keyword).length) (backTo pos (starEach es X.env)) (backToKw pos (keywordEach [] X.env)) = true := few_of hs hl
  have hpos : methodCallPos true o X.env apos pos = pure pos := by unfold methodCallPos; simp [hline]
  refine ⟨(do return (← importBound o X.env).getD true), ?_⟩
  unfold MethTree
  rw [arm_eval_Call, hbase]
  unfold methodCall
  rw [hform]
  simp only [hpos]
  rfl
theorem tAs_nil {σ : L2.St} {H : Hp} {Q : List V → Hp → Prop} (h : tAs cf io X.K [] σ H Q) : tNil σ H Q := by
  obtain ⟨B, Dz, F, s, R, as, s1, e1, c⟩ := h
  rw [evAs] at e1
  cases e1
  exact c Dz F H [] [] (Tr.refl _) R .nil fun _ m => by cases m
theorem good_methI {i g : Nat} {c m : String} {es : List E} {x : Str} {pes : List Expr} {p0 apos pos : Pos} (hcan : CanM cf X c m g (es.length + 1)) (hN : X.N[i]? = some x) (hv : Vis X.env.scope x) (hd : (x == ("__debug__" : Str)) = false) (hcd : (x == ("__classdict__" : Str)) = false)
    (h : Goods cf io X es pes) (hlen : es.length = pes.length) (hl : pes.length < 30) (hline : (apos.endLine == pos.line) = true) : Good cf io X (.meth c m g (.io i :: es)) (.Call (.Attribute (.Name x p0) (Str.ofString m) apos) pes [] pos) := by
  obtain ⟨C, f, h1, h2, h3, ⟨k, fd, ps, ds, dvs, dfs, rs, np, hF, hr, _, hb, hd', hrs, hn, hdd⟩⟩ := hcan.ex
  obtain ⟨pl, ht⟩ := meth_tree (X := X) (o := .Name x p0) (m := Str.ofString m) (apos := apos) (pos := pos) rfl h.star hl hline
  have hs := h.star
  cases pes with
  | nil =>
    have hes : es = [] := by
      cases es with
      | nil => rfl
      | cons a as =>
        exact absurd hlen (by simp)
    subst hes
    exact .of (PE.imp (pe_meth0 (pe_var hN hv hd hcd) h2 h3 hF hr hb hd' (E := C8.E0) C8.pass0 ht) fun σ H Q q => by
      obtain ⟨v, hv', a, dx, fs, e1, e2, e3, q⟩ := meth_io h1 hrs hn hdd rfl σ H Q q
      exact ⟨v, hv', a, dx, fs, e1, e2, e3, tAs_nil q⟩) rfl
  | cons e pes =>
    rw [List.all_cons, Bool.and_eq_true] at hs
    exact .of (PE.imp (pe_meth (pe_var hN hv hd hcd) h2 h3 hF hr hb hd' (E := C8.E0) C8.pass0 h.val (star_cons hs.1 _ _) (star_any hs.2) ht) (meth_io h1 hrs hn hdd rfl)) rfl
theorem good_methR {g : Nat} {c m : String} {e0 : E} {o : Expr} {es : List E} {pes : List Expr} {apos pos : Pos} (hcan : CanM cf X c m g (es.length + 1)) (hni : ∀ i, e0 ≠ .io i) (h0 : Good cf io X e0 o) (hb0 : plainBase o = true)
    (h : Goods cf io X es pes) (hlen : es.length = pes.length) (hl : pes.length < 30) (hline : (apos.endLine == pos.line) = true) : Good cf io X (.meth c m g (e0 :: es)) (.Call (.Attribute o (Str.ofString m) apos) pes [] pos) := by
  obtain ⟨C, f, h1, h2, h3, ⟨k, fd, ps, ds, dvs, dfs, rs, np, hF, hr, _, hb, hd', hrs, hn, hdd⟩⟩ := hcan.ex
  obtain ⟨pl, ht⟩ := meth_tree (X := X) (o := o) (m := Str.ofString m) (apos := apos) (pos := pos) hb0 h.star hl hline
  have hs := h.star
  cases pes with
  | nil =>
    have hes : es = [] := by
      cases es with
      | nil => rfl
      | cons a as => exact absurd hlen (by simp)
    subst hes
    exact .of (PE.imp (pe_meth0 h0.val h2 h3 hF hr hb hd' (E := C8.E0) C8.pass0 ht) fun σ H Q q =>
      (meth_rv h1 hrs hn hdd hni rfl σ H Q q).mono fun v H1 ⟨a, dx, fs, e1, e2, e3, q⟩ => ⟨a, dx, fs, e1, e2, e3, tAs_nil q⟩) rfl
  | cons e pes =>
    rw [List.all_cons, Bool.and_eq_true] at hs
    exact .of (PE.imp (pe_meth h0.val h2 h3 hF hr hb hd' (E := C8.E0) C8.pass0 h.val (star_cons hs.1 _ _) (star_any hs.2) ht) (meth_rv h1 hrs hn hdd hni rfl)) rfl

/-! ### a new instance -/
theorem rvs_args {s : Sl} : ∀ {as : List AV} {rs : List RV}, AV.rvs as = some rs → AV.args s as = some (rs.map fun r => .pv r.k r.d) ∧ AV.ios as = []
  | [], rs, e => by cases e; exact ⟨rfl, rfl⟩
  | .io _ :: as, rs, e => by cases e
  | .rv r :: as, rs, e => by
    rw [AV.rvs, Option.map_eq_some_iff] at e
    obtain ⟨rs, e, rfl⟩ := e
    obtain ⟨h1, h2⟩ := rvs_args e
    exact ⟨by rw [AV.args, h1]; rfl, h2⟩
section
variable {K : PySem.W.Frag} {B Dz Dz' : Addr → Prop} {F F' : Nat → List Addr} {H H' : Hp} {s : Sl} {σ : L2.St}
/-- one slot more -/
theorem Rel.push {k : Nat} {d : D} {v : V} {G : List Addr} (R : Rel K B Dz F s σ H) (h : Rp K H Dz k d v G) (nd : G.Nodup) (hG : ∀ a ∈ G, ¬ Dz a ∧ ¬ B a ∧ ∀ j, a ∉ F j) : Rel K B Dz (fset F s.length G) (s ++ [.ow k d]) (σ ++ [some v]) H := by
  refine ⟨by simp [R.len], fun i x e => ?_, fun i => ?_, fun i j a m1 m2 => ?_, fun i a m => ?_, fun i hi => ?_, fun i a m => ?_, R.tk, fun i a m => ?_, R.bt⟩
  · by_cases hi : i < s.length
    · have hne : i ≠ s.length := by omega
      rw [List.getElem?_append_left hi] at e
      have q := R.sl i x e
      have eσ : (σ ++ [some v])[i]? = σ[i]? := List.getElem?_append_left (by rw [← R.len]; exact hi)
      rw [eσ]
      cases x with
      | no => show fset F s.length G i = []; rw [fset_ne hne]; exact q
      | bo k' d' => obtain ⟨h1, w, G', h2, h3, h4⟩ := q; exact ⟨by rw [fset_ne hne]; exact h1, w, G', h2, h3, h4⟩
      | ow k' d' => obtain ⟨w, h2, h3⟩ := q; exact ⟨w, h2, by rw [fset_ne hne]; exact h3⟩
    · have : i = s.length := by
        have := (List.getElem?_eq_some_iff.mp e).1
        simp at this
        omega
      subst this
      rw [List.getElem?_append_right (Nat.le_refl _), Nat.sub_self] at e
      cases e
      exact ⟨v, by rw [R.len, List.getElem?_append_right (Nat.le_refl _), Nat.sub_self]; rfl, by rw [fset_same]; exact h⟩
  · by_cases hi : i = s.length
    · subst hi; rw [fset_same]; exact nd
    · rw [fset_ne hi]; exact R.nd i
  · rcases fset_in m1 with ⟨e1, z1⟩ | ⟨h1, z1⟩
    · rcases fset_in m2 with ⟨e2, z2⟩ | ⟨h2, z2⟩
      · rw [e1, e2]
      · exact absurd z2 ((hG a z1).2.2 j)
    · rcases fset_in m2 with ⟨e2, z2⟩ | ⟨h2, z2⟩
      · exact absurd z1 ((hG a z2).2.2 i)
      · exact R.dj i j a z1 z2
  · rcases fset_in m with ⟨_, z⟩ | ⟨_, z⟩
    · exact (hG a z).1
    · exact R.dz i a z
  · rw [List.length_append, List.length_singleton] at hi
    rw [fset_ne (by omega)]
    exact R.out i (by omega)
  · rcases fset_in m with ⟨_, z⟩ | ⟨_, z⟩
    · exact h.mut a z
    · exact R.mt i a z
  · rcases fset_in m with ⟨_, z⟩ | ⟨_, z⟩
    · exact (hG a z).2.1
    · exact R.bz i a z
/-- one slot less: its value is at hand -/
theorem Rel.pull {k : Nat} {d : D} {v : V} (R : Rel K B Dz F (s ++ [.ow k d]) (σ ++ [some v]) H) : Rel K B Dz (fset F s.length []) s σ H ∧ RvOk K B H Dz (fset F s.length []) (.ow k d) v (F s.length) := by
  have hl : s.length = σ.length := by have := R.len; simp at this; exact this
  have q := R.sl s.length (.ow k d) (by rw [List.getElem?_append_right (Nat.le_refl _), Nat.sub_self]; rfl)
  obtain ⟨w, h1, h2⟩ := q
  rw [hl, List.getElem?_append_right (Nat.le_refl _), Nat.sub_self] at h1
  cases h1
  have inF : ∀ {i : Nat} {a : Addr}, a ∈ fset F s.length [] i → i ≠ s.length ∧ a ∈ F i := fun m => by
    rcases fset_in m with ⟨_, z⟩ | z
    · cases z
    · exact z
  refine ⟨⟨hl, fun i x e => ?_, fun i => ?_, fun i j a m1 m2 => R.dj i j a (inF m1).2 (inF m2).2, fun i a m => R.dz i a (inF m).2, fun i hi => ?_, fun i a m => R.mt i a (inF m).2, R.tk, fun i a m => R.bz i a (inF m).2, R.bt⟩, h2, R.nd _, fun a m => ⟨R.dz _ a m, R.bz _ a m, fun j mj => ?_⟩⟩
  · have hi := (List.getElem?_eq_some_iff.mp e).1
    have hne : i ≠ s.length := by omega
    have q := R.sl i x (by rw [List.getElem?_append_left hi]; exact e)
    have eσ : (σ ++ [some v])[i]? = σ[i]? := List.getElem?_append_left (by omega)
    rw [eσ] at q
    cases x with
    | no => show fset F s.length [] i = []; rw [fset_ne hne]; exact q
    | bo k' d' => obtain ⟨h1, w, G', h2, h3, h4⟩ := q; exact ⟨by rw [fset_ne hne]; exact h1, w, G', h2, h3, h4⟩
    | ow k' d' => obtain ⟨w, h2, h3⟩ := q; exact ⟨w, h2, by rw [fset_ne hne]; exact h3⟩
  · by_cases hi : i = s.length
    · subst hi; rw [fset_same]; exact .nil
    · rw [fset_ne hi]; exact R.nd i
  · by_cases hi' : i = s.length
    · subst hi'; rw [fset_same]
    · rw [fset_ne hi']; exact R.out i (by simp; omega)
  · obtain ⟨h1, h3⟩ := inF mj
    exact h1 (R.dj _ _ a h3 m)
/-- arguments over one slot more -/
theorem AvsOk.push {v : V} {G' : List Addr} (R : Rel K B Dz F s σ H) : ∀ {as : List AV} {vs : List V} {G : List Addr}, AvsOk K B H Dz F σ as vs G → (∀ a ∈ G, a ∉ G') → AvsOk K B H Dz (fset F s.length G') (σ ++ [some v]) as vs G
  | _, _, _, .nil, _ => .nil
  | _, _, _, .io e t, h => .io (by
      have hi := (List.getElem?_eq_some_iff.mp e).1
      rw [List.getElem?_append_left hi]; exact e) (AvsOk.push R t h)
  | _, _, _, .rv (r := r) o t dj, h => by
    refine .rv ?_ (AvsOk.push R t fun a m => h a (List.mem_append_right _ m)) dj
    cases r with
    | ow k d =>
      obtain ⟨h1, h2, h3⟩ := o
      refine ⟨h1, h2, fun a m => ⟨(h3 a m).1, (h3 a m).2.1, fun j mj => ?_⟩⟩
      rcases fset_in mj with ⟨_, z⟩ | ⟨_, z⟩
      · exact h a (List.mem_append_left _ m) z
      · exact (h3 a m).2.2 j z
    | bo src k d =>
      obtain ⟨h1, G2, h2, h3⟩ := o
      refine ⟨h1, G2, h2, fun a m => (h3 a m).imp id fun ⟨j, hj, z⟩ => ⟨j, hj, ?_⟩⟩
      have : j ≠ s.length := fun e => by
        rw [e, R.out _ (Nat.le_refl _)] at z
        cases z
      rw [fset_ne this]; exact z
end
section
variable {g : Nat} {c : String} {C : Addr} {rs : List Arg → Rs} {dfs : List D} {dvs : List V} {np nn : Nat} {es : List E}
theorem mk_key (hC : ClsAt X.K c C) (hrs : ∀ as : List Arg, as.length = nn → cf g as = rs (as ++ dfs.map (Arg.pv 0))) (hn : nn + dfs.length = np) (hd : ∀ H Dz, Rps X.K H Dz 0 dfs dvs []) {k : Nat} (hl : es.length + 1 = nn) :
    ∀ σ H Q, tE cf io X.K (.mk k c g es) σ H Q → tMake C (spD X.K np rs) dvs C8.E0 (tAs cf io X.K es) σ H Q := by
  rintro σ H Q ⟨B, Dz, F, s, R, r, s', q, cc⟩
  rw [evE] at q
  obtain ⟨as, s1, e1, q⟩ := Ev.bind_ok q
  have la := evAs_len e1
  split at q
  case h_2 => cases q
  rename_i rvs erv
  split at q
  case isFalse => cases q
  rename_i hkc
  obtain ⟨hk, hcl⟩ := hkc
  split at q
  case h_2 => cases q
  rename_i k0 d er
  injection q with q1 q2
  subst q1 q2
  refine tAs.next cf io R e1 fun Dz1 F1 H1 us G t1 R1 o1 g1 => ?_
  intro x dx nx ndx hne
  have oG := o1.out
  obtain ⟨H2, hH2⟩ : ∃ H2, upd (upd H1 dx (.own x)) x (.ins C dx []) = H2 := ⟨_, rfl⟩
  rw [hH2]
  have sm : Same H1 H2 := fun b u e => by
    rw [← hH2, upd_ne (ne_of_none e nx), upd_ne (ne_of_none e ndx)]; exact e
  have hx2 : H2 x = some (.ins C dx []) := by rw [← hH2, upd_same]
  have tk2 : ∀ a, Dz1 a → H2 a ≠ none := fun a z => by
    cases e : H1 a with
    | none => exact absurd e (R1.tk a z)
    | some o => rw [sm a o e]; exact fun z => nomatch z
  have R2 := R1.grow sm (fun _ z => z) (fun _ z => .inl z) tk2
  have o2 := o1.tr R1 (Tr.grow sm (fun _ z => z) fun _ z => .inl z) (clash_nil2' _)
  have xz : ¬ Dz1 x := fun z => R1.tk x z nx
  have xb : ¬ B x := fun z => R1.bt x z nx
  have xF : ∀ j, x ∉ F1 j := fun j m => tracked (R1.mt j x m) nx
  have rpx : Rp X.K H2 Dz1 k (.ins c []) (.ref x) [x] := by
    obtain ⟨k', rfl⟩ : ∃ k', k = k' + 1 := ⟨k - 1, by omega⟩
    exact .io_ (F := []) hx2 hC rfl .nil
  have R3 := R2.push rpx (by simp) fun a m => by
    obtain rfl : a = x := by simpa using m
    exact ⟨xz, xb, xF⟩
  have o3 := AvsOk.push (v := V.ref x) (G' := [x]) R2 o2 fun a m m' => by
    obtain rfl : a = x := by simpa using m'
    exact tracked (oG.2 a m).2.2.2 nx
  have n0 : (σ ++ [some (V.ref x)])[s1.length]? = some (some (.ref x)) := by rw [R1.len, List.getElem?_append_right (Nat.le_refl _), Nat.sub_self]; rfl
  have s0 : (s1 ++ [Slot.ow k (.ins c [])])[s1.length]? = some (.ow k (.ins c [])) := by rw [List.getElem?_append_right (Nat.le_refl _), Nat.sub_self]; rfl
  obtain ⟨ea, ei⟩ := rvs_args (s := s1 ++ [Slot.ow k (.ins c [])]) erv
  have eargs : AV.args (s1 ++ [Slot.ow k (.ins c [])]) (.io s1.length :: as) = some (.io k (.ins c []) :: rvs.map fun r => .pv r.k r.d) := by
    rw [AV.args, s0, ea]; rfl
  have eios : AV.ios (.io s1.length :: as) = [s1.length] := by rw [AV.ios, ei]
  have ll : rvs.length = as.length := by
    have := args_len ea
    simpa using this
  refine call_core (as := .io s1.length :: as) (us := V.ref x :: us) (G := G) (s2 := (s1 ++ [Slot.ow k (.ins c [])]).set s1.length (.ow k d)) hn hd (by rw [List.length_cons, la]; exact hl) R3 (.io n0 o3) eargs (by rw [eios]; simp) (by rw [eios]; exact hcl) (by rw [← hrs _ (by simp; omega)]; exact er) (by
    rw [eios]
    simp [setOuts, s0]) ?_
  rw [eios]
  intro Dz' F' H' v G' t R' ov gf
  have e3 : (s1 ++ [Slot.ow k (.ins c [])]).set s1.length (.ow k d) = s1 ++ [.ow k d] := by
    rw [List.set_append_right _ _ (Nat.le_refl _), Nat.sub_self]; rfl
  rw [e3] at R'
  refine ⟨by have := ov.1; cases this; rfl, ?_⟩
  obtain ⟨R4, o4⟩ := R'.pull
  have hback : ∀ a, H2 a = none → H1 a = none := fun a e => by
    cases e' : H1 a with
    | none => rfl
    | some o => rw [sm a o e'] at e; cases e
  have h1 : ∀ {i : Nat} {a : Addr}, i ∈ [s1.length] → a ∈ fset F1 s1.length [x] i → H1 a = none := fun hi m => by
    obtain rfl := List.mem_singleton.mp hi
    rw [fset_same] at m
    rw [List.mem_singleton.mp m]; exact nx
  have u : Tr [] Dz1 F1 H1 Dz' (fset F' s1.length []) H' := by
    refine ⟨t.dz, fun a z => ?_, fun a o e _ => ?_, fun a o e n => ?_, fun i _ => ?_, fun i a hi m => by cases hi⟩
    · rcases t.new a z with z | z | ⟨i, hi, z⟩
      · exact .inl z
      · exact .inr (.inl (hback a z))
      · exact .inr (.inl (h1 hi z))
    · refine t.keep a o (sm a o e) fun i hi m => ?_
      rw [h1 hi m] at e; cases e
    · exact t.nm a o (sm a o e) n
    · by_cases hi : i = s1.length
      · subst hi; rw [fset_same, R1.out _ (Nat.le_refl _)]
      · rw [fset_ne hi, t.fs i (by simpa using hi), fset_ne hi]
  refine cc Dz' (fset F' s1.length []) H' (V.ref x) (F' s1.length) ((t1.trans u).mono fun i hi => by simpa [E.muts] using hi) R4 o4 fun a m => ?_
  have : H1 a = none := by
    rcases t.fn s1.length a (by simp) m with z | ⟨i, hi, z⟩
    · exact hback a z
    · exact h1 hi z
  exact t1.none_of this
end
theorem good_mk {k g : Nat} {c : String} {es : List E} {x : Str} {pes : List Expr} {p pos : Pos} (hx : x = Str.ofString c) (hcan : CanC cf X c g (es.length + 1)) (hg : Gl X x) (hdb : (x == ("__debug__" : Str)) = false)
    (h : Goods cf io X es pes) (hlen : es.length = pes.length) : Good cf io X (.mk k c g es) (.Call (.Name x p) pes [] pos) := by
  subst hx
  obtain ⟨C, f, h1, h2, h3, ⟨j, fd, ps, ds, dvs, dfs, rs, np, hF, _, hr, hb, hd', hrs, hn, hdd⟩⟩ := hcan.ex
  have hs := h.star
  cases pes with
  | nil =>
    have hes : es = [] := by
      cases es with
      | nil => rfl
      | cons a as => exact absurd hlen (by simp)
    subst hes
    exact .of (PE.imp (pe_make0 h3 hF hr hg h2 hb hd' (E := C8.E0) C8.pass0 hdb) fun σ H Q q => tAs_nil (mk_key h1 hrs hn hdd rfl σ H Q q)) rfl
  | cons e pes =>
    rw [List.all_cons, Bool.and_eq_true] at hs
    exact .of (PE.imp (pe_make h3 hF hr hg h2 hb hd' (E := C8.E0) C8.pass0 h.val hdb (star_cons hs.1 _ _) (star_any hs.2)) (mk_key h1 hrs hn hdd rfl)) rfl

/-! ### a field stored -/
theorem good_fset {i : Nat} {c f : String} {e : E} {x : Str} {a : Expr} {p0 p1 pos : Pos} (hN : X.N[i]? = some x) (hv : Vis X.env.scope x) (hdb : (x == ("__debug__" : Str)) = false) (hcd : (x == ("__classdict__" : Str)) = false) (hcl : ∀ C, ClsAt X.K c C → Cls X.K C ∧ NoAttr X.K C (Str.ofString f)) (ha : Good cf io X e a)
    (hs : swapsWith a (some (.Attribute (.Name x p0) (Str.ofString f) p1)) pos.line X.env = pure false) : PS X (.Assign [.Attribute (.Name x p0) (Str.ofString f) p1] a pos) (tS cf io n X.K (.fset i c f e)) := by
  refine PS.imp (ps_fld (pe_var hN hv hdb hcd) ha.val hs) ?_
  rintro En σ H ⟨B, Dz, F, s, R, cc⟩
  rw [evS] at cc
  split at cc
  case h_2 => exact cc.elim
  rename_i r s1 e1
  generalize hch : chg s1 i [] (fsetF c f r) = oc at cc
  rcases chg_ok hch with rfl | ⟨k, d, d', hs1, hu, rfl⟩
  · exact cc.elim
  refine tE.next cf io R e1 fun Dz1 F1 H1 w Gw t1 R1 o1 g1 => ?_
  have hl1 : i < s1.length := (List.getElem?_eq_some_iff.mp hs1).1
  obtain ⟨v, hv1, hr⟩ := R1.sl i _ hs1
  refine ⟨v, hv1, ?_⟩
  cases k with
  | zero => simp only [updD] at hu; cases hu
  | succ k =>
    simp only [updD] at hu
    cases d with
    | ins c' fs =>
      simp only [fsetF] at hu
      split at hu
      case isFalse => cases hu
      rename_i hc
      obtain ⟨rfl, hlen⟩ := hc
      rw [Option.map_eq_some_iff] at hu
      obtain ⟨dd, ed, rfl⟩ := hu
      generalize hF1 : F1 i = Fi at hr
      cases hr with
      | @io_ _ p C dx _ es _ G0 h1 h2 h3 h4 =>
        have pF : p ∈ F1 i := by rw [hF1]; simp
        have ndF := R1.nd i
        rw [hF1, List.nodup_cons] at ndF
        obtain ⟨q1, q2⟩ := hcl C h2
        obtain ⟨G', N, f1, f2, f3, f4⟩ := o1.fit ed
        have og := o1.out
        have pN : ∀ a ∈ N, a ≠ p := fun a m e => (og.2 a (f3.subset m)).2.2.1 i (by rw [e]; exact pF)
        have pz : ¬ Or Dz1 N p := fun z => z.elim (R1.dz i p pF) fun m => pN p m rfl
        have pG : p ∉ G' := fun m => (og.2 p (f2.subset m)).2.2.1 i pF
        have gaG : ∀ a ∈ G0, a ∉ Gw := fun a m m1 => (og.2 a m1).2.2.1 i (by rw [hF1]; simp [m])
        obtain ⟨o', ho'⟩ : ∃ o', HO.ins C dx (L2.putF (Str.ofString f) w es) = o' := ⟨_, rfl⟩
        have r1 := (h4.more (Dz' := Or Dz1 N) fun _ z => .inl z).updp (o := o') h1 True.intro pz ndF.1
        have r2 := f1.updp (o := o') h1 True.intro pz pG
        have ndA : (G0 ++ G').Nodup := by
          rw [List.nodup_append]
          exact ⟨ndF.2, og.1.sublist f2, fun a m b mb e => gaG a m (by rw [e]; exact f2.subset mb)⟩
        obtain ⟨L', l1, l2, l3, l4⟩ : ∃ L', Rps X.K (upd H1 p o') (Or Dz1 N) k ((setFld fs f dd).map (·.2)) ((L2.putF (Str.ofString f) w es).map (·.2)) L' ∧ L'.Nodup ∧ (∀ a ∈ L', a ∈ G0 ++ G') ∧ FldL (setFld fs f dd) (L2.putF (Str.ofString f) w es) := by
          rcases look_fld (f := f) h3 h4 with ⟨_, _, z3, z4⟩ | ⟨j, d0, v0, z1, z2, z3, z4, z5, z6⟩
          · refine ⟨G0 ++ G', ?_, ndA, fun a m => m, ?_⟩
            · rw [z3, z4, List.map_append, List.map_append]
              exact r1.snoc r2
            · unfold FldL at h3 ⊢
              rw [z3, z4, List.map_append, List.map_append, h3]
              rfl
          · obtain ⟨y1, y2⟩ := z5 dd
            obtain ⟨y3, y4⟩ := z6 w
            have hj : j < (fs.map (·.2)).length := (List.getElem?_eq_some_iff.mp z3).1
            obtain ⟨A, L, C', eg, rr⟩ := Rps.set (j := j) r1 hj r2
            have sub : ∀ a ∈ A ++ G' ++ C', a ∈ G0 ++ G' := fun a m => by
              rw [eg]; simp at m ⊢; grind
            refine ⟨A ++ G' ++ C', ?_, ?_, sub, ?_⟩
            · rw [y1, y3, List.map_set]
              exact rr
            · rw [eg] at ndA
              rw [List.nodup_append, List.nodup_append, List.nodup_append] at ndA
              obtain ⟨⟨⟨a1, a2, a3⟩, a4, a5⟩, a6, a7⟩ := ndA
              rw [List.nodup_append, List.nodup_append]
              refine ⟨⟨a1, a6, fun u hu v hv e => a7 u (by simp [hu]) v hv e⟩, a4, fun u hu v hv e => ?_⟩
              rcases List.mem_append.mp hu with hu | hu
              · exact a5 u (by simp [hu]) v hv e
              · exact a7 v (by simp [hv]) u hu e.symm
            · unfold FldL at h3 ⊢
              have e1 : (setFld fs f dd).map (fun p => Str.ofString p.1) = ((setFld fs f dd).map (·.1)).map Str.ofString := by rw [List.map_map]; rfl
              have e2 : fs.map (fun p => Str.ofString p.1) = (fs.map (·.1)).map Str.ofString := by rw [List.map_map]; rfl
              rw [e1, y2, ← e2, h3, y3, ← y4]
        have lenE : es.length < 1000 := by
          have := congrArg List.length h3
          rw [List.length_map, List.length_map] at this
          omega
        refine ⟨p, C, dx, es, rfl, h1, q1, q2, lenE, ?_⟩
        rw [ho']
        have R2 := R1.poke (N := N) (k := k + 1) (d' := .ins c' (setFld fs f dd)) (o := o') (G' := p :: L') hl1 hv1 pF (fun a m => ⟨(og.2 a (f3.subset m)).2.2.1, tracked (og.2 a (f3.subset m)).2.2.2⟩) h1 True.intro (.io_ (by rw [upd_same, ← ho']) h2 l4 l1) (List.nodup_cons.mpr ⟨fun m => (List.mem_append.mp (l3 p m)).elim ndF.1 pG, l2⟩) (fun a m => by
          rcases List.mem_cons.mp m with rfl | m
          · exact .inl pF
          · rcases List.mem_append.mp (l3 a m) with z | z
            · exact .inl (by rw [hF1]; simp [z])
            · have q := og.2 a (f2.subset z)
              exact .inr ⟨fun y => y.elim q.1 (f4 a z), q.2.1, q.2.2.1⟩)
        have t0 : Tr (i :: E.muts e) Dz F H Dz1 F1 H1 := t1.mono fun j hj => by simp [hj]
        have inM : ∀ {a : Addr}, a ∈ F1 i → H a = none ∨ ∃ j ∈ i :: E.muts e, a ∈ F j := fun {a} m => t0.fn i a (by simp) m
        have gw : ∀ a ∈ Gw, H a = none ∨ ∃ j ∈ i :: E.muts e, a ∈ F j := fun a m => (g1 a m).imp id fun ⟨j, hj, z⟩ => ⟨j, by simp [hj], z⟩
        refine cc (Or Dz1 N) (fset F1 i (p :: L')) _ σ (t0.poke (by simp) (inM pF) (by rw [h1]; exact True.intro) (fun a m => gw a (f3.subset m)) fun a m => ?_) R2 (SigI.refl _ _)
        rcases List.mem_cons.mp m with rfl | m
        · exact inM pF
        · rcases List.mem_append.mp (l3 a m) with z | z
          · exact inM (by rw [hF1]; simp [z])
          · exact gw a (f2.subset z)
    | _ => simp only [fsetF] at hu; cases hu
end Ti
end

section
/-! index; sorting what is one's own; written dicts; items moved -/
namespace Ti
open PySem PySem.Spec PyProof.Rows L2
variable [PWc]
variable {cf : Nat → List Arg → Rs} {io : List Nat} {n : Nat} {X : Cx}
theorem pe_or {e : Expr} {t u : TE} (p : PE X e t) (q : PE X e u) : PE X e fun σ H Q => t σ H Q ∨ u σ H Q := ⟨fun pins s σ H Q I h => h.elim (p.run pins s σ H Q I) (q.run pins s σ H Q I)⟩
theorem findIdx_at {α : Type} {f : α → Bool} : ∀ {xs : List α} {j : Nat}, xs.findIdx? f = some j → ∃ x, xs[j]? = some x ∧ f x = true ∧ ∀ m y, m < j → xs[m]? = some y → f y = false
  | [], j, e => by simp at e
  | x :: xs, j, e => by
    rw [List.findIdx?_cons] at e
    split at e
    · cases e
      exact ⟨x, rfl, by assumption, fun m y h => absurd h (Nat.not_lt_zero m)⟩
    · rename_i hx
      rw [Option.map_eq_some_iff] at e
      obtain ⟨j', e, rfl⟩ := e
      obtain ⟨y, a1, a2, a3⟩ := findIdx_at e
      refine ⟨y, by simpa using a1, a2, fun m z h hz => ?_⟩
      cases m with
      | zero => simp at hz; subst hz; simpa using hx
      | succ m => exact a3 m z (by omega) (by simpa using hz)
theorem flats_mem : ∀ {xs : List D}, D.flats xs = true → ∀ x ∈ xs, x.flat = true
  | [], _, _, m => by cases m
  | x :: xs, h, y, m => by
    simp only [D.flats, Bool.and_eq_true] at h
    rcases List.mem_cons.mp m with rfl | m
    · exact h.1
    · exact flats_mem h.2 y m
theorem strs_vals {K : PySem.W.Frag} {H : Hp} {Dz : Addr → Prop} : ∀ {xs : List D} {vs : List V} {zs : List String} {k : Nat} {F : List Addr}, Rps K H Dz k xs vs F → strsD xs = some zs → xs = zs.map D.str ∧ vs = (zs.map Str.ofString).map V.str
  | [], vs, zs, k, F, h, e => by
    cases h
    cases e
    exact ⟨rfl, rfl⟩
  | x :: xs, vs, zs, k, F, h, e => by
    cases x <;> simp only [strsD] at e <;> try cases e
    rw [Option.map_eq_some_iff] at e
    obtain ⟨zs, e, rfl⟩ := e
    cases h with
    | cons h1 h2 =>
      obtain ⟨a1, a2⟩ := strs_vals h2 e
      cases h1
      exact ⟨by rw [a1]; rfl, by rw [a2]; rfl⟩
theorem good_index {eo e1 : E} {o a : Expr} {apos cpos : Pos} (hu : X.A.units + 100 < cLine) (ho : Good cf io X eo o) (h1 : Good cf io X e1 a) (hi1 : ∀ i, e1 ≠ .io i) (hs : notStar a = true) (hb : plainBase o = true) (hline : (apos.endLine == cpos.line) = true) :
    Good cf io X (.bm .index eo [e1]) (.Call (.Attribute o "index" apos) [a] [] cpos) := by
  have ga := goods_cons hi1 h1 hs goods_nil
  have p1 := pe_bm (X := X) (cpos := cpos) (apos := apos) F.plainAttrs_list F.slot_list_index F.type_list_index (mt_indexD (by omega)) ho.val ga.val (base_of hb _ _ _) (few_of ga.star (by simp)) hline (star_cons hs _ _) rfl
  refine .of (PE.imp p1 ?_) rfl
  rintro σ H Q ⟨B, Dz, F, s, R, r, s', q, c⟩
  rw [evE] at q
  obtain ⟨ro, t1, q1, q⟩ := Ev.bind_ok q
  split at q
  · cases q
  rename_i hcl
  have hcl : clash ro.src (E.mutss [e1]) = false := by simpa using hcl
  obtain ⟨as, t2, q2, q⟩ := Ev.bind_ok q
  split at q
  case h_2 => cases q
  rename_i x ds ex eds
  obtain ⟨k, d, e, rfl, rfl⟩ := rk_ok q
  obtain ⟨r1, t3, as1, qa, _, q3, rfl⟩ := evAs_cons hi1 q2
  rw [evAs] at q3
  cases q3
  have ex' : ro.d = x := hr_sh ex
  obtain ⟨dv, rfl, edv⟩ : ∃ dv, ds = [dv] ∧ r1.d = dv := by
    simp only [AV.rvs, Option.map_some, Option.bind_some] at eds
    unfold Ti.shs at eds
    split at eds
    · rename_i d1 ds' f1 f2
      unfold Ti.shs at f2
      cases f2
      cases eds
      exact ⟨d1, rfl, hr_sh f1⟩
    · cases eds
  have tk0 : ∀ (v : V) (Hx : Hp), (∃ (Dz1 : Addr → Prop) (F1 : Nat → List Addr) (G : List Addr), Tr (E.muts eo) Dz F H Dz1 F1 Hx ∧ Rel X.K B Dz1 F1 t1 σ Hx ∧ RvOk X.K B Hx Dz1 F1 ro v G) → True := fun _ _ _ => trivial
  cases x <;> try (simp only [bmD] at e; cases e; done)
  · -- a list
    rename_i xs
    simp only [bmD] at e
    unfold idxOf at e
    split at e
    case isFalse => cases e
    rename_i hh
    obtain ⟨f1, f2, f3, f4⟩ := hh
    rw [Option.map_eq_some_iff] at e
    obtain ⟨j, ej, e⟩ := e
    injection e with e5 e6
    subst e5 e6
    refine tE.next cf io R q1 fun Dz1 F1 H1 v G1 u1 R1 o1 g1 => ?_
    obtain ⟨_, p1⟩ := o1.rp
    rw [ex'] at p1
    obtain ⟨p, vs, j0, F0, rfl, hq, hr⟩ := p1.lstAny
    refine ⟨tyl hq, tAs.next cf io R1 (evAs_one qa hi1) fun Dz2 F2 H2 ws G2 u2 R2 o2 g2 => ?_⟩
    obtain ⟨w, rfl, o3⟩ := o2.one
    obtain ⟨_, p3⟩ := o3.rp
    rw [edv] at p3
    have oT := o1.tr R1 u2 hcl
    obtain ⟨_, p4⟩ := oT.rp
    rw [ex'] at p4
    obtain ⟨y, c1, c2, c3⟩ := findIdx_at ej
    have fl := flats_mem f2
    have pdm : ∀ (m : Nat) (z' : PyData), (D.pds xs)[m]? = some z' → ∃ x0, xs[m]? = some x0 ∧ z' = x0.pd := fun m z' h => by
      rw [D.pds_map, List.getElem?_map, Option.map_eq_some_iff] at h
      obtain ⟨x0, h1, h2⟩ := h
      exact ⟨x0, h1, h2.symm⟩
    refine ⟨p, w, dv.pd, D.pds xs, j, y.pd, rfl, rfl, p4.dp f2, p3.dp f1, ?_, ?_, ?_, ?_, fun m z' hm hz => ?_, ?_⟩
    · unfold SeqAt.shaped
      rw [Bool.and_eq_true, decide_eq_true_eq]
      refine ⟨?_, ?_⟩
      · have := D.lay_pd (.lst xs)
        rwa [D.pd] at this
      · show PyData.depthAll (D.pds xs) + 1 ≤ 64
        rw [D.deps_pd]; omega
    · unfold SeqAt.shaped
      rw [Bool.and_eq_true, decide_eq_true_eq, D.dep_pd]
      exact ⟨D.lay_pd _, by omega⟩
    · rw [D.pds_map, List.getElem?_map, c1]; rfl
    · rw [D.eqv_pd _ _ (fl y (List.mem_of_getElem? c1)) f1]; exact c2
    · obtain ⟨x0, h1, rfl⟩ := pdm m z' hz
      rw [D.eqv_pd _ _ (fl x0 (List.mem_of_getElem? h1)) f1]
      exact c3 m x0 hm h1
    · have mm : E.mutss [e1] = E.muts e1 := by simp [E.mutss]
      exact c.val ((u1.trans u2).mono fun i hi => by simpa [E.muts] using hi) R2 (.int _)
theorem strs_of : ∀ zs : List String, strsD (zs.map D.str) = some zs
  | [] => rfl
  | z :: zs => by rw [List.map_cons, strsD, strs_of zs]; rfl
theorem Rp.strV {K : PySem.W.Frag} {H : Hp} {Dz : Addr → Prop} {k : Nat} {z : String} {v : V} {F : List Addr} (h : Rp K H Dz k (.str z) v F) : v = .str (Str.ofString z) := by
  cases h; rfl
/-- a written tuple of texts: where one stands in it -/
theorem good_gix {x : String} {zs : List String} {e1 : E} {o a : Expr} {v : V} {apos cpos : Pos} (ho : PE X o (tC v)) (hv : ∀ H Dz, Rp X.K H Dz 0 (.tup (zs.map .str)) v []) (h1 : Good cf io X e1 a) (hi1 : ∀ i, e1 ≠ .io i) (hs : notStar a = true) (hb : plainBase o = true) (hline : (apos.endLine == cpos.line) = true) :
    Good cf io X (.gix x zs e1) (.Call (.Attribute o "index" apos) [a] [] cpos) := by
  have ga := goods_cons hi1 h1 hs goods_nil
  refine .of (PE.imp (pe_bm F.plainAttrs_tuple F.slot_tuple_index F.type_tuple_index mt_tup_index ho ga.val (base_of hb _ _ _) (few_of ga.star (by simp)) hline (star_cons hs _ _) rfl) ?_) rfl
  rintro σ H Q ⟨B, Dz, F, s, R, r, s', q, c⟩
  rw [evE] at q
  obtain ⟨r1, s1, qa, q⟩ := Ev.bind_ok q
  split at q
  case h_2 => cases q
  rename_i z edv
  split at q
  case h_2 => cases q
  rename_i j ej
  cases q
  obtain ⟨p, vs, ev, hK, hr⟩ : ∃ (p : Addr) (vs : List V), v = .ref p ∧ (∃ (o : Obj) (its : Array Value) (n : Nat), X.K.lookup p = some o ∧ o.cls = .type "tuple" ∧ o.dict = none ∧ o.data = .seq its n ∧ its.size ≤ sizeLine ∧ Vals vs its.toList) ∧ Rps X.K (fun _ => none) (fun _ => False) 0 (zs.map .str) vs [] := by
    have h0 := hv (fun _ => none) fun _ => False
    cases h0 with
    | tup hs hr =>
      rcases hs with ⟨o, _, h⟩ | h
      · cases h
      · exact ⟨_, _, rfl, h, hr⟩
  subst ev
  have estr : strsD (zs.map D.str) = some zs := strs_of zs
  obtain ⟨_, b2⟩ := strs_vals hr estr
  subst b2
  obtain ⟨oo, its, n, k1, k2, k3, k4, k5, k6⟩ := hK
  refine ⟨.inr (.inl ⟨rfl, oo, k1, k2, k3⟩), tAs.next cf io R (evAs_one qa hi1) fun Dz2 F2 H2 ws G2 u2 R2 o2 g2 => ?_⟩
  obtain ⟨w, rfl, o3⟩ := o2.one
  obtain ⟨_, p3⟩ := o3.rp
  rw [edv] at p3
  cases p3.strV
  obtain ⟨y, c1, c2, c3⟩ := findIdx_at ej
  have e2 : y = z := by simpa using c2
  subst e2
  have mm : E.mutss [e1] = E.muts e1 := by simp [E.mutss]
  refine ⟨p, zs.map Str.ofString, Str.ofString y, j, rfl, rfl, .inr ⟨oo, its, n, k1, k2, k4, k5, k6⟩, by rw [List.getElem?_map, c1]; rfl, fun m hm hz => ?_, ?_⟩
  · rw [List.getElem?_map, Option.map_eq_some_iff] at hz
    obtain ⟨y', hz, hy⟩ := hz
    have := c3 m y' hm hz
    rw [ofString_inj.mp hy] at this
    simp at this
  · rw [mm] at u2
    exact c.val u2 R2 (.int _)
/-! ### sorting, with what the items own -/
abbrev Ow := D × V × List Addr
theorem Rps.trip {K : PySem.W.Frag} {H : Hp} {Dz : Addr → Prop} {k : Nat} : ∀ {ds : List D} {vs : List V} {G : List Addr}, Rps K H Dz k ds vs G → ∃ ts : List Ow, ds = ts.map (·.1) ∧ vs = ts.map (·.2.1) ∧ G = ts.flatMap (·.2.2) ∧ ∀ t ∈ ts, Rp K H Dz k t.1 t.2.1 t.2.2
  | _, _, _, .nil => ⟨[], rfl, rfl, rfl, fun _ m => by cases m⟩
  | _, _, _, .cons (d := d) (v := v) (F := F) h r => by
    obtain ⟨ts, rfl, rfl, rfl, q⟩ := Rps.trip r
    refine ⟨(d, v, F) :: ts, rfl, rfl, rfl, fun t m => ?_⟩
    rcases List.mem_cons.mp m with rfl | m
    · exact h
    · exact q t m
theorem Rps.untrip {K : PySem.W.Frag} {H : Hp} {Dz : Addr → Prop} {k : Nat} : ∀ {ts : List Ow}, (∀ t ∈ ts, Rp K H Dz k t.1 t.2.1 t.2.2) → Rps K H Dz k (ts.map (·.1)) (ts.map (·.2.1)) (ts.flatMap (·.2.2))
  | [], _ => .nil
  | t :: ts, h => by
    rw [List.map_cons, List.map_cons, List.flatMap_cons]
    exact .cons (h t List.mem_cons_self) (Rps.untrip fun x m => h x (List.mem_cons_of_mem _ m))
def rSrt (K : PySem.W.Frag) : List V → Hp → VK → Prop := fun vs H Q => ∃ (p : Addr) (ts : List Ow) (Dz : Addr → Prop) (k : Nat), vs = [.ref p] ∧ H p = some (.lst (ts.map (·.2.1))) ∧ (∀ t ∈ ts, Rp K H Dz k t.1 t.2.1 t.2.2) ∧ sortOk (ts.map (·.1)) = true ∧
  ∀ (q : Addr) (T : List Ow), H q = none → T.Perm ts → T.map (·.1) = sortD (ts.map (·.1)) → Q (.ref q) (upd H q (.lst (T.map (·.2.1))))
theorem cr_srt (hu : X.A.units + 100 < cLine) : CallR X (.builtin "sorted") (rSrt X.K) := by
  intro pins s σ H xs us Q I r h
  obtain ⟨p, ts, Dz, k, rfl, hl, hr, ok, hq⟩ := h
  obtain ⟨u, rfl, ru⟩ : ∃ u, us = [u] ∧ L2.RelV (.ref p) u := by
    cases r with
    | cons r1 r2 => cases r2; exact ⟨_, rfl, r1⟩
  cases ru
  unfold sortOk at ok
  simp only [Bool.and_eq_true, List.all_eq_true, decide_eq_true_eq, Bool.or_eq_true] at ok
  obtain ⟨⟨ok1, ok2⟩, ok3⟩ := ok
  have ok1' : ∀ x ∈ ts, ∀ y ∈ ts, D.alk x.1 y.1 = true ∨ D.cmpl x.1 y.1 = true := fun x hx y hy => ok1 _ (List.mem_map.mpr ⟨x, hx, rfl⟩) _ (List.mem_map.mpr ⟨y, hy, rfl⟩)
  have ok2' : ∀ x ∈ ts, x.1.flat = true ∧ x.1.dep ≤ 60 := fun x hx => ok2 _ (List.mem_map.mpr ⟨x, hx, rfl⟩)
  obtain ⟨its, rv, pl, hz⟩ := I.list (SqL.of hl)
  have hlen : its.length = ts.length := by rw [← rv.length, List.length_map]
  have e : PySem.W.EachIs (fun (w : Value) (t : Ow) => L2.RelV t.2.1 w) its ts := each_iff hlen fun i w t e1 e2 => by
    obtain ⟨w', e3, r3⟩ := rv.get (i := i) (x := t.2.1) (by rw [List.getElem?_map, e2]; rfl)
    rw [e1] at e3; cases e3
    exact r3
  have er : PySem.W.EachIs (fun (w : Value) (t : Ow) => ∃ as, Reads s.heap w t.1.pd as) its ts := each_iff hlen fun i w t e1 e2 => by
    obtain ⟨w', e3, r3⟩ := rv.get (i := i) (x := t.2.1) (by rw [List.getElem?_map, e2]; rfl)
    rw [e1] at e3; cases e3
    have m := List.mem_of_getElem? e2
    exact Dp.reads I _ t.2.1 w ((hr t m).dp (ok2' t m).1) r3
  have hL : ts.length ≤ sizeLine := by simpa using hz
  have hfin : ∀ out : List Value, out.length = ts.length → PySem.W.EachIs (fun (w : Value) (t : Ow) => L2.RelV t.2.1 w) out (ts.mergeSort (PySem.W.dataLe false fun t : Ow => t.1.pd)) → EP X pins σ Q (.ref (s.heap.objs.size + 1)) { s with heap := PyProof.Rows.sortedAll s.heap its out.toArray } := by
    intro out ho each
    obtain ⟨ep, he'⟩ := PyProof.Rows.sortedAll_at s.heap its out.toArray
    generalize hT : ts.mergeSort (PySem.W.dataLe false fun t : Ow => t.1.pd) = T at each
    have hperm : T.Perm ts := by rw [← hT]; exact List.mergeSort_perm _ _
    have hvals : Vals (T.map (·.2.1)) out := by
      clear hT hperm ho he'
      induction each with
      | nil => exact .nil
      | cons h t ih => exact .cons h ih
    have hsort : T.map (·.1) = sortD (ts.map (·.1)) := by
      rw [← hT]
      unfold sortD
      exact List.map_mergeSort fun a _ b _ => rfl
    refine ⟨.ref _, upd H (s.heap.objs.size + 1) (.lst (T.map (·.2.1))), I.laid (t' := s.toks) (fun _ _ => PyProof.Rows.sortedAll_old) (Nat.le_succ _) ⟨?_, out, ep, hvals, he'⟩, rfl, hq _ T (I.hok.fresh (Nat.le_succ _)) hperm hsort⟩
    rw [List.length_map, hperm.length_eq]; exact hL
  rcases ok3 with h | h
  · refine sortedP (enc := fun t : Ow => t.1.pd) pl.isList e er ?_ (fun d hd => ?_) (fun d hd => ?_) hL (fun t ht => ?_) hfin
    · intro d hd d' hd'
      obtain ⟨x, hx, rfl⟩ := List.mem_map.mp hd
      obtain ⟨y, hy, rfl⟩ := List.mem_map.mp hd'
      rcases ok1' x hx y hy with z | z
      · exact cmpP_of _ _ (alk_pd x.1 y.1 (ok2' x hx).1 z)
      · exact cmpl_pd x.1 y.1 (ok2' x hx).1 (ok2' y hy).1 z
    · obtain ⟨x, hx, rfl⟩ := List.mem_map.mp hd
      exact D.lay_pd x.1
    · obtain ⟨x, hx, rfl⟩ := List.mem_map.mp hd
      have h := h _ (List.mem_map.mpr ⟨x, hx, rfl⟩)
      obtain ⟨d, v, L⟩ := x
      cases d with
      | tup ys =>
        cases ys with
        | nil => simp [isTup1] at h
        | cons y ys => exact ⟨y.pd, D.pds ys, by simp [D.pd, D.pds]⟩
      | _ => simp [isTup1] at h
    · rw [D.dep_pd]
      have := (ok2' t ht).2
      omega
  · refine PySem.W.sorted_data (enc := fun t : Ow => t.1.pd) pl.isList e er ?_ (.inr fun d hd => ?_) hL (fun t ht => ?_) hfin
    · intro d hd d' hd'
      obtain ⟨x, hx, rfl⟩ := List.mem_map.mp hd
      obtain ⟨y, hy, rfl⟩ := List.mem_map.mp hd'
      rcases ok1' x hx y hy with z | z
      · exact alk_pd x.1 y.1 (ok2' x hx).1 z
      · rw [cmpl_other fun u e => by
          have := h _ (List.mem_map.mpr ⟨x, hx, rfl⟩)
          rw [e] at this
          cases this] at z
        exact alk_pd x.1 y.1 (ok2' x hx).1 z
    · obtain ⟨x, hx, rfl⟩ := List.mem_map.mp hd
      have h1 := h _ (List.mem_map.mpr ⟨x, hx, rfl⟩)
      have h2 := (ok2' x hx).1
      obtain ⟨d, v, L⟩ := x
      cases d <;> simp_all [noTup, D.pd, D.flat]
    · rw [D.dep_pd]
      have := (ok2' t ht).2
      omega
theorem perm_flat {α β : Type} {f : α → List β} {l m : List α} (p : l.Perm m) : (l.flatMap f).Perm (m.flatMap f) := by
  induction p with
  | nil => exact List.Perm.refl _
  | cons x _ ih => rw [List.flatMap_cons, List.flatMap_cons]; exact ih.append_left _
  | swap x y l =>
    rw [List.flatMap_cons, List.flatMap_cons, List.flatMap_cons, List.flatMap_cons, ← List.append_assoc, ← List.append_assoc]
    exact List.perm_append_comm.append_right _
  | trans _ _ i1 i2 => exact i1.trans i2
/-- sorted, its items moved -/
theorem good_srt {ea : E} {a : Expr} {p pos : Pos} (hu : X.A.units + 100 < cLine) (hg : Gl X ("sorted" : Str)) (hm : X.mg ("sorted" : Str) = none) (ha : Good cf io X ea a) (hni : ∀ i, ea ≠ .io i) (hs : notStar a = true) :
    Good cf io X (.srt ea) (.Call (.Name "sorted" p) [a] [] pos) := by
  have ga := goods_cons hni ha hs goods_nil
  refine .of (PE.imp (pe_callB (cr_srt hu) hg hm (by decide +kernel) ga.val (by decide) (by decide) (star_cons hs _ _) (star_any (by simp [hs]))) ?_) rfl
  rintro σ H Q ⟨B, Dz, F, s, R, r, s', q, c⟩
  rw [evE] at q
  obtain ⟨r1, s1, qa, q⟩ := Ev.bind_ok q
  split at q
  case h_2 => cases q
  rename_i k xs
  split at q
  case isFalse => cases q
  rename_i ok
  cases q
  refine tAs.next cf io R (evAs_one qa hni) fun Dz1 F1 H1 ws G u1 R1 o1 g1 => ?_
  obtain ⟨w, rfl, o2⟩ := o1.one
  have mm : E.mutss [ea] = E.muts ea := by simp [E.mutss]
  rw [mm] at u1 g1
  obtain ⟨h1, nd, h3⟩ := o2
  cases h1 with
  | @lo _ p vs _ G0 hp hr =>
    obtain ⟨ts, rfl, rfl, rfl, hts⟩ := hr.trip
    refine ⟨p, ts, Dz1, k, rfl, hp, hts, ok, fun q T hq hT he => ?_⟩
    have sm := same_new (o := .lst (T.map (·.2.1))) hq
    have pf : (T.flatMap (·.2.2)).Perm (ts.flatMap (·.2.2)) := perm_flat hT
    have nz : ¬ Dz1 q := fun z => R1.tk q z hq
    have tk2 : ∀ a, Dz1 a → upd H1 q (.lst (T.map (·.2.1))) a ≠ none := fun a z => by
      rw [upd_ne fun e => nz (by rw [← e]; exact z)]; exact R1.tk a z
    have R2 := R1.grow sm (fun _ z => z) (fun _ z => .inl z) tk2
    have u2 := (u1.trans (Tr.grow (F := F1) sm (fun _ z => z) (fun _ z => .inl z))).mono (M1 := E.muts (.srt ea)) fun i hi => by simpa [E.muts] using hi
    have hmT : ∀ t ∈ T, Rp X.K H1 Dz1 k t.1 t.2.1 t.2.2 := fun t m => hts t (hT.mem_iff.mp m)
    have rT := (Rps.untrip hmT).up sm fun _ z => z
    rw [he] at rT
    have nF : ∀ a ∈ T.flatMap (·.2.2), a ∈ ts.flatMap (·.2.2) := fun a m => pf.mem_iff.mp m
    have hn : ∀ j, q ∉ F1 j := fun j m => tracked (R1.mt j q m) hq
    refine c Dz1 F1 _ (.ref q) (q :: T.flatMap (·.2.2)) u2 R2 ⟨.lo upd_same rT, ?_, fun a m => ?_⟩ fun a m => ?_
    · rw [List.nodup_cons]
      refine ⟨fun m => ?_, pf.nodup_iff.mpr (List.nodup_cons.mp nd).2⟩
      have := (Rps.untrip hts).mut q (nF q m)
      exact tracked this hq
    · rcases List.mem_cons.mp m with rfl | m
      · exact ⟨nz, fun z => R1.bt _ z hq, hn⟩
      · exact h3 a (List.mem_cons_of_mem _ (nF a m))
    · rcases List.mem_cons.mp m with rfl | m
      · exact u1.none_of hq
      · exact g1 a (List.mem_cons_of_mem _ (nF a m))
theorem Rps.app {K : PySem.W.Frag} {H : Hp} {Dz : Addr → Prop} {k : Nat} : ∀ {a : List D} {v : List V} {F : List Addr}, Rps K H Dz k a v F → ∀ {b : List D} {w : List V} {G : List Addr}, Rps K H Dz k b w G → Rps K H Dz k (a ++ b) (v ++ w) (F ++ G)
  | _, _, _, .nil, _, _, _, r => r
  | _, _, _, .cons h t, _, _, _, r => by
    rw [List.cons_append, List.cons_append, List.append_assoc]
    exact .cons h (t.app r)
/-! ### another's items moved in -/
theorem good_extm {i : Nat} {p : List E} {e : E} {o a : Expr} {apos cpos pos : Pos} (ho : PE X o (tPth cf io X.K i p)) (hl : p.length ≤ 1) (hcl : ∀ c f, p = [E.fk c f] → ∀ C, ClsAt X.K c C → Cls X.K C ∧ NoAttr X.K C (Str.ofString f)) (ha : Goods cf io X [e] [a]) (hni : ∀ i, e ≠ .io i) (hb : plainBase o = true) (hline : (apos.endLine == cpos.line) = true) :
    PS X (.Expr (.Call (.Attribute o "extend" apos) [a] [] cpos) pos) (tS cf io n X.K (.extm i p e)) := by
  have hs := ha.star
  simp only [List.all_cons, List.all_nil, Bool.and_true] at hs
  refine PS.imp (ps_expr (pe_bm F.plainAttrs_list F.slot_list_extend F.type_list_extend mt_extend ho ha.val (base_of hb _ _ _) (few_of ha.star (by simp)) hline (star_cons hs _ _) rfl) rfl) ?_
  rintro En σ H ⟨B, Dz, F, s, R, c⟩
  rw [evS] at c
  split at c
  case h_2 => exact c.elim
  rename_i ks hk
  split at c
  case isTrue => exact c.elim
  rename_i hni2
  have hi : i ∉ E.muts e := by simpa using hni2
  split at c
  case h_2 => exact c.elim
  rename_i r s1 e1
  generalize hch : chg s1 i ks (extM r) = oc at c
  rcases chg_ok hch with rfl | ⟨k, d, d', hs1, hu, rfl⟩
  · exact c.elim
  have hsi : s[i]? = some (.ow k d) := by rw [← (fr_E e1).2 i hi]; exact hs1
  have hl1 : i < s1.length := (List.getElem?_eq_some_iff.mp hs1).1
  refine pth_next R hk hl hsi hu hcl fun Dz1 F1 H1 u v k1 d1 d1' G1 t1 R1 hv sb => ?_
  have fe := sb.fe
  cases d1 with
  | lst xs =>
    simp only [extM] at fe
    split at fe
    case h_2 => cases fe
    rename_i ys ed
    split at fe
    case isFalse => cases fe
    rename_i hz
    cases fe
    obtain ⟨q, vq, eu, hq⟩ : ∃ (q : Addr) (vq : List V), u = .ref q ∧ H1 q = some (.lst vq) := by
      have := sb.rp
      cases this with
      | lo h r => exact ⟨_, _, rfl, h⟩
    subst eu
    refine ⟨tyl hq, tAs.next cf io R1 (evAs_one e1 hni) fun Dz2 F2 H2 ws G t2 R2 o2 g2 => ?_⟩
    obtain ⟨w, rfl, o3⟩ := o2.one
    have mm : E.mutss [e] = E.muts e := by simp [E.mutss]
    rw [mm] at t2 g2
    have t0 : Tr (i :: E.muts e) Dz F H Dz2 F2 H2 := (t1.trans t2).mono fun j hj => by simp at hj ⊢; exact .inr hj
    obtain ⟨vs, h1, h2, hlen, fin⟩ := lst_put (M := E.muts e) R1 hv sb hi t2 R2 hl1 o3 ed (M0 := i :: E.muts e) (fun j hj => by simp [hj]) (by simp) t0 (fun a m => (t1.fresh (g2 a m)).imp id fun ⟨j, hj, z⟩ => ⟨j, by simp at hj ⊢; exact .inr hj, z⟩) c
    obtain ⟨Gf, Nf, f1, -, -, -⟩ := o3.fit ed
    obtain ⟨b, zs, rfl, hb2, hr2⟩ : ∃ (b : Addr) (zs : List V), w = .ref b ∧ H2 b = some (.lst zs) ∧ ys.length = zs.length := by
      cases f1 with
      | lo h r => exact ⟨_, _, rfl, h, r.len⟩
    refine ⟨q, b, vs, zs, rfl, rfl, h2, hb2, by rw [← hlen, ← hr2, ← big_size]; exact hz, fin _ fun H' Dz' G L' r1 r2 nd hL => ?_⟩
    obtain ⟨zs', Gz, rfl, hz', rz⟩ := r2.lo_inv
    obtain rfl : zs' = zs := by
      have := hL b (by simp)
      rw [this, hb2] at hz'
      cases hz'; rfl
    refine ⟨G ++ Gz, r1.app rz, nd.sublist (List.Sublist.append_left (List.sublist_cons_self _ _) _), fun a m => ?_⟩
    rcases List.mem_append.mp m with m | m
    · exact List.mem_append_left _ m
    · exact List.mem_append_right _ (List.mem_cons_of_mem _ m)
  | _ => simp only [extM] at fe; cases fe
/-! ### a written dict of texts -/
def cV : D → V
  | .int i => .int i
  | .bl b => .bl b
  | _ => .non
def tNew0 : TE := fun _ H Q => ∀ p, H p = none → Q (.ref p) (upd H p (.lst []))
theorem pe_new0 {pos : Pos} : PE X (.List [] pos) tNew0 := by
  refine PE.imp (pe_lst (pa_nil (X := X))) fun σ H Q h => ?_
  exact ⟨Nat.zero_le _, h⟩
def tDv : Option D → TE
  | some d => tC (cV d)
  | none => tNew0
inductive Dcs (X : Cx) : List (String × Option D) → List (Option Expr) → List Expr → Prop
  | nil : Dcs X [] [] []
  | cons {z : String} {o : Option D} {kvs : List (String × Option D)} {ke ve : Expr} {ks : List (Option Expr)} {vs : List Expr} : PE X ke (tC (.str (Str.ofString z))) → PE X ve (tDv o) → Dcs X kvs ks vs → Dcs X ((z, o) :: kvs) (some ke :: ks) (ve :: vs)
theorem Dcs.pps {pos : Pos} {kvs : List (String × Option D)} {ks : List (Option Expr)} {vs : List Expr} (h : Dcs X kvs ks vs) : PPs X pos ks vs (kvs.map fun p => (tC (.str (Str.ofString p.1)), tDv p.2)) := by
  induction h with
  | nil => exact pps_nil
  | cons h1 h2 _ ih => exact pps_cons h1 h2 ih
theorem Dcs.lens {kvs : List (String × Option D)} {ks : List (Option Expr)} {vs : List Expr} (h : Dcs X kvs ks vs) : ks.length = kvs.length ∧ vs.length = kvs.length ∧ ks.all (·.isSome) = true := by
  induction h with
  | nil => exact ⟨rfl, rfl, rfl⟩
  | cons _ _ _ ih => simp [ih]
def oVal (k : Nat) : Option D → Prop
  | some .non => True
  | some (.int _) => True
  | some (.bl _) => True
  | none => 1 ≤ k
  | _ => False
theorem pairs_ok {K : PySem.W.Frag} {σ : L2.St} {Dz : Addr → Prop} {k : Nat} : ∀ (kvs : List (String × Option D)) (H : Hp) (Q : List (V × V) → Hp → Prop), (∀ p ∈ kvs, oVal k p.2) →
    (∀ (es : List (L2.Key × V)) (G : List Addr) (H' : Hp), Same H H' → es.map (·.1) = kvs.map (fun p => .inr (Str.ofString p.1)) → Rps K H' Dz k (kvs.map fun p => p.2.getD (.lst [])) (es.map (·.2)) G → G.Nodup → (∀ a ∈ G, H a = none) → Q (es.map fun kv => (kV kv.1, kv.2)) H') →
    tPairs (kvs.map fun p => (tC (.str (Str.ofString p.1)), tDv p.2)) σ H Q
  | [], H, Q, _, h => h [] [] H (Same.refl H) rfl .nil .nil fun _ m => by cases m
  | (z, o) :: kvs, H, Q, ok, h => by
    have ok2 : ∀ p ∈ kvs, oVal k p.2 := fun p m => ok p (List.mem_cons_of_mem _ m)
    have ok1 := ok (z, o) List.mem_cons_self
    rw [List.map_cons]
    unfold tPairs
    show tDv o σ H _
    cases o with
    | some d =>
      show tPairs _ σ H _
      have rd : ∀ H', Rp K H' Dz k d (cV d) [] := fun H' => by
        cases d <;> simp only [oVal] at ok1 <;> first | exact .non | exact .bl _ | exact .int _
      refine pairs_ok (K := K) (Dz := Dz) kvs H _ ok2 fun es G H' sm ek r nd fr => ?_
      have r2 := Rps.cons (rd H') r
      exact h ((.inr (Str.ofString z), cV d) :: es) ([] ++ G) H' sm (by simp [ek]) r2 (by simpa using nd) (by simpa using fr)
    | none =>
      intro p hp
      obtain ⟨j, rfl⟩ : ∃ j, k = j + 1 := ⟨k - 1, by simp only [oVal] at ok1; omega⟩
      refine pairs_ok (K := K) (Dz := Dz) kvs _ _ ok2 fun es G H' sm ek r nd fr => ?_
      have pl : H' p = some (.lst []) := sm p _ upd_same
      have r2 := Rps.cons (Rp.lo (k := j) pl .nil) r
      have npG : p ∉ G := fun m => by have := fr p m; rw [upd_same] at this; cases this
      refine h ((.inr (Str.ofString z), .ref p) :: es) ([p] ++ G) H' (fun a o e => sm a o (by rw [upd_ne (ne_of_none e hp)]; exact e)) (by simp [ek]) r2 (List.nodup_cons.mpr ⟨npG, nd⟩) fun a m => ?_
      rcases List.mem_cons.mp m with rfl | m
      · exact hp
      · have := fr a m
        by_cases ea : a = p
        · rw [ea]; exact hp
        · rwa [upd_ne ea] at this
theorem mergeK_new : ∀ (es acc : List (L2.Key × V)), ((acc ++ es).map (·.1)).Nodup → mergeK acc es = acc ++ es
  | [], acc, _ => by simp [mergeK]
  | e :: es, acc, h => by
    have h' : (((acc ++ [e]) ++ es).map (·.1)).Nodup := by simpa using h
    have e1 : putK acc e.1 e.2 = acc ++ [e] := by
      unfold putK
      rw [if_neg]
      intro hh
      rw [List.any_eq_true] at hh
      obtain ⟨x, hx, q⟩ := hh
      have q : x.1 = e.1 := by simpa using q
      rw [List.map_append, List.nodup_append] at h
      exact h.2.2 x.1 (List.mem_map.mpr ⟨x, hx, rfl⟩) e.1 (by simp) q
    have := mergeK_new es (acc ++ [e]) h'
    unfold mergeK at this ⊢
    rw [List.foldl_cons, e1, this]
    simp
theorem good_dcs {k : Nat} {kvs : List (String × Option D)} {ks : List (Option Expr)} {vs : List Expr} {pos : Pos} (h : Dcs X kvs ks vs) (h15 : kvs.length ≤ 15) (h0 : kvs ≠ []) : Good cf io X (.dcs k kvs) (.Dict ks vs pos) := by
  obtain ⟨l1, l2, l3⟩ := h.lens
  refine .of (PE.imp (pe_disp (h.pps (pos := pos)) l3 (by rw [l1, l2]) (fun e => h0 (List.eq_nil_of_length_eq_zero (by rw [← l1, e]; rfl))) (by rw [l1]; exact h15)) ?_) rfl
  rintro σ H Q ⟨B, Dz, F, s, R, r, s', q, c⟩
  rw [evE] at q
  split at q
  case isFalse => cases q
  rename_i hok
  cases q
  obtain ⟨hk, hd⟩ := hok
  obtain ⟨k, rfl⟩ : ∃ j, k = j + 1 := ⟨k - 1, by omega⟩
  have hd' := hd
  unfold dcsOk at hd
  simp only [Bool.and_eq_true, List.all_eq_true, decide_eq_true_eq, Bool.not_eq_true', List.isEmpty_eq_false_iff] at hd
  obtain ⟨⟨-, hnd⟩, hall⟩ := hd
  intro p hp
  have sp := same_new (o := .dK []) hp
  have ok : ∀ x ∈ kvs, oVal k x.2 := fun x m => by
    have := (hall x m).2
    revert this
    cases x.2 with
    | none => intro z; simp at z; show 1 ≤ k; omega
    | some d => cases d <;> intro z <;> first | exact True.intro | (simp at z)
  refine pairs_ok (K := X.K) (Dz := Dz) (k := k) kvs _ _ ok fun es G H' sm ek r nd fr => ?_
  have hpl : H' p = some (.dK []) := sm p _ upd_same
  have enl : es.length = kvs.length := by
    have := congrArg List.length ek
    simpa using this
  refine ⟨hpl, es, rfl, by rw [enl]; exact h15, ?_⟩
  have hkn : (es.map (·.1)).Nodup := by
    rw [ek]
    have : (kvs.map fun p => (Sum.inr (Str.ofString p.1) : L2.Key)) = (kvs.map (·.1)).map fun z => .inr (Str.ofString z) := by rw [List.map_map]; rfl
    rw [this]
    rw [List.nodup_iff_pairwise_ne] at hnd ⊢
    rw [List.pairwise_map]
    exact hnd.imp fun {a b} n e => by injection e with e; exact n (ofString_inj.mp e)
  rw [mergeK_new es [] (by simpa using hkn), List.nil_append]
  have f := c.fin (Tr.refl _) R
  have np : ¬ Dz p := fun z => R.tk p z hp
  have npG : p ∉ G := fun m => by have := fr p m; rw [upd_same] at this; cases this
  have fr' : ∀ a ∈ G, H a = none := fun a m => by
    have := fr a m
    rwa [upd_ne (fun e => npG (by rw [← e]; exact m))] at this
  have smF : Same H (upd H' p (.dK es)) := fun a o e => by
    have ne := ne_of_none e hp
    rw [upd_ne ne]
    exact sm a o (by rw [upd_ne ne]; exact e)
  refine f (.ref p) _ Dz (p :: G) smF (fun _ z => z) (fun _ z => .inl z) (fun a z => ?_) (.do_ upd_same ⟨?_, ?_⟩ ?_) (List.nodup_cons.mpr ⟨npG, nd⟩) fun a m => ?_
  · intro e
    have := R.tk a z
    cases q : H a with
    | none => exact this q
    | some o => rw [smF a o q] at e; cases e
  · rw [List.map_map]
    have : es.map (fun p => some p.1) = (es.map (·.1)).map some := by rw [List.map_map]; rfl
    rw [this, ek, List.map_map]
    rfl
  · intro q m
    obtain ⟨x, hx, rfl⟩ := List.mem_map.mp m
    show x.1.length ≤ big
    have := (hall x hx).1
    unfold big
    omega
  · rw [List.map_map]
    exact r.stay (fun _ z => z) (fun a o e n => by rw [upd_ne (mut_ne hpl True.intro e n)]; exact e) (fun a o e z => by rw [upd_ne (fun q => np (by rw [← q]; exact z))]; exact e) fun a o e m => by rw [upd_ne (fun q => npG (by rw [← q]; exact m))]; exact e
  · rcases List.mem_cons.mp m with rfl | m
    · exact ⟨hp, np⟩
    · exact ⟨fr' a m, fun z => R.tk a z (fr' a m)⟩
end Ti
end

section
/-! Sets of ints and texts: set(xs), sorted(set(xs)). -/
namespace Ti
open PySem PySem.Spec PyProof.Rows L2
variable [PWc]

/-- the key an entry stands for -/
def enK (e : Int × Value) : L2.Key := match e.2 with
  | .int i _ => .inl i
  | .str x _ => .inr x
  | _ => .inl 0
/-- an entry of an int or a text -/
def EnOk (P : Program) (w : World) (e : Int × Value) : Prop := RelV (kV (enK e)) e.2 ∧ e.1 = (mixKind P w).hash (enK e)
/-- the set at a holds these keys, and can be walked -/
def SetX (P : Program) (w : World) (h : Heap) (a : Addr) (ks : List L2.Key) : Prop :=
  ∃ o es ep t, h.get? a = some o ∧ o.ExactSet ∧ o.data = .set es ep t ∧ (∀ e ∈ es.toList, EnOk P w e) ∧ (es.toList.map enK).Perm ks ∧ ks.Nodup ∧
    es.size < scanBound ∧ t.fits es.size = true ∧ Ris t.place.toList ∧ (w.params.followText "set-order" = true ∨ t.led = true)
def addK (ks : List L2.Key) (k : L2.Key) : List L2.Key := if (ks.any fun x => decide (x = k)) = true then ks else ks ++ [k]
theorem addK_in {ks : List L2.Key} {k : L2.Key} (h : k ∈ ks) : addK ks k = ks := by
  unfold addK
  rw [if_pos (List.any_eq_true.mpr ⟨k, h, by simp⟩)]
theorem addK_out {ks : List L2.Key} {k : L2.Key} (h : k ∉ ks) : addK ks k = ks ++ [k] := by
  unfold addK
  rw [if_neg]
  intro c
  obtain ⟨x, hx, e⟩ := List.any_eq_true.mp c
  exact h (of_decide_eq_true e ▸ hx)

section
variable {P : Program} {w : World} {A : Around} {E : Value → Shared → Prop} {s : Shared} {a : Addr} {ks : List L2.Key}
theorem SetX.keep {h h' : Heap} (R : SetX P w h a ks) (k : ∀ o, h.get? a = some o → h'.get? a = some o) : SetX P w h' a ks := by
  obtain ⟨o, es, ep, t, ho, r⟩ := R
  exact ⟨o, es, ep, t, k o ho, r⟩
theorem enK_of {k : L2.Key} {u : Value} (r : RelV (kV k) u) (z : Int) : enK (z, u) = k := by
  cases k with
  | inl i => obtain ⟨t, rfl⟩ := (show ∃ t, u = Value.int i t from r); rfl
  | inr x => obtain ⟨t, rfl⟩ := (show ∃ t, u = Value.str x t from r); rfl
theorem enOk_of {k : L2.Key} {u : Value} (r : RelV (kV k) u) : EnOk P w ((mixKind P w).hash k, u) := by
  unfold EnOk
  rw [enK_of r]
  exact ⟨r, rfl⟩
theorem enElems {l : List (Int × Value)} (g : ∀ e ∈ l, EnOk P w e) : ElemsOf (mixKind P w) l := fun e he =>
  ⟨⟨enK e, kV_is (g e he).1, (g e he).2⟩, key_scan (g e he).1⟩
theorem enIs {e : Int × Value} (g : EnOk P w e) (k : L2.Key) : (mixKind P w).is k e.2 = true ↔ enK e = k :=
  ⟨fun h => (mixKind P w).inj _ _ _ (kV_is g.1) h, fun h => h ▸ kV_is g.1⟩
theorem addK_len (ks : List L2.Key) (k : L2.Key) : (addK ks k).length ≤ ks.length + 1 := by
  rcases Classical.em (k ∈ ks) with h | h
  · rw [addK_in h]; omega
  · rw [addK_out h]; simp
theorem addK_nodup {ks : List L2.Key} (h : ks.Nodup) (k : L2.Key) : (addK ks k).Nodup := by
  rcases Classical.em (k ∈ ks) with hk | hk
  · rw [addK_in hk]; exact h
  · rw [addK_out hk]
    exact (List.perm_append_singleton _ _).nodup_iff.mpr (List.nodup_cons.mpr ⟨hk, h⟩)

theorem setX_add {k : L2.Key} {u : Value} {Q : Bool → Shared → Prop} (ru : RelV (kV k) u) (R : SetX P w s.heap a ks) (room : ks.length + 1 < scanBound)
    (hQ : ∀ h' b, Heap.SameBut a s.heap h' → SetX P w h' a (addK ks k) → Q b { s with heap := h' }) :
    wpAny (model P w) A (setAddHashed a u ((mixKind P w).hash k)) Q E s := by
  obtain ⟨o, es, ep, t, ho, hex, hd, g, pm0, nd, hb, hf, hr, hl⟩ := R
  have hsc : u.scannable = true := key_scan ru
  have hel := enElems g
  unfold setAddHashed setAddHashedIn
  refine wpAny_holding (wpAny_bind (wpAny_setState_of ho hd hf ?_))
  dsimp only
  rw [byScan_of hsc hb hel]
  simp only [↓reduceIte]
  unfold setAddByScan
  refine wpAny_bind (wpAny_bind (wpAny_rule (wpAny_bind (wpAny_setScan_of (kV_is ru) ho hd hf hel ?_))))
  cases hfi : List.findIdx? (fun e => (mixKind P w).is k e.2) es.toList with
  | some j =>
    dsimp only
    obtain ⟨hj, pj, _⟩ := List.findIdx?_eq_some_iff_getElem.mp hfi
    have hin : k ∈ ks := pm0.mem_iff.mp (List.mem_map.mpr ⟨_, List.getElem_mem hj, (enIs (g _ (List.getElem_mem hj)) k).1 pj⟩)
    refine wpAny_pure (wpAny_pure (hQ s.heap _ (Heap.SameBut.refl a s.heap) ?_))
    rw [addK_in hin]
    exact ⟨o, es, ep, t, ho, hex, hd, g, pm0, nd, hb, hf, hr, hl⟩
  | none =>
    dsimp only
    have hnk : k ∉ ks := fun z => by
      obtain ⟨e, he, q⟩ := List.mem_map.mp (pm0.mem_iff.mpr z)
      have c := List.findIdx?_eq_none_iff.mp hfi e he
      rw [(enIs (g e he) k).2 q] at c
      cases c
    have pm := layNew_perm t es ((mixKind P w).hash k) u
    have hf1 := layNew_fits t es ((mixKind P w).hash k) u
    have hr1 := layNew_ris t es ((mixKind P w).hash k) u hr
    have hl1 := layNew_led t es ((mixKind P w).hash k) u
    generalize layNew t es ((mixKind P w).hash k) u = Z at pm hf1 hr1 hl1 ⊢
    obtain ⟨es1, t1, wasDummy, gave⟩ := Z
    dsimp only at pm hf1 hr1 hl1 ⊢
    rw [Array.toList_push] at pm
    have g1 : ∀ e ∈ es1.toList, EnOk P w e := fun e he => by
      rcases List.mem_append.mp (pm.mem_iff.mp he) with z | z
      · exact g e z
      · rw [List.mem_singleton.mp z]; exact enOk_of ru
    have pk : (es1.toList.map enK).Perm (addK ks k) := by
      have q := pm.map enK
      rw [List.map_append, List.map_singleton, enK_of ru] at q
      rw [addK_out hnk]
      exact q.trans (pm0.append_right [k])
    have nd1 := addK_nodup nd k
    have hsz : es1.size < scanBound := by
      rw [← Array.length_toList, ← List.length_map (f := enK), pk.length_eq]
      exact Nat.lt_of_le_of_lt (addK_len ks k) room
    have hled : w.params.followText "set-order" = true ∨ t1.led = true := hl.imp id fun z => by rw [hl1]; exact z
    have tail : ∀ (g : Bool → Sem Unit) (t2 : SetTable) (wd : Bool), (∀ (b : Bool) (s₁ : Shared) (Q' : Unit → Shared → Prop), Q' () s₁ → wpAny (model P w) A (g b) Q' E s₁) → t2.fits es1.size = true → Ris t2.place.toList → (w.params.followText "set-order" = true ∨ t2.led = true) →
        ∀ (R : Option Bool → Shared → Prop), (∀ h' b, Heap.SameBut a s.heap h' → SetX P w h' a (addK ks k) → R (some b) { s with heap := h' }) →
        wpAny (model P w) A (do
          storeSet a es1 t2
          if (!wd && t2.tooFull) = true then do
              g (relayAll t2 es1 (SetTable.grown es1.size)).2.2
              storeSet a (relayAll t2 es1 (SetTable.grown es1.size)).1 (relayAll t2 es1 (SetTable.grown es1.size)).2.1
              pure (some true)
            else pure (some true)) R E s := by
      intro gg t2 wd hg hf2 hr2 hl2 R hR
      refine wpAny_bind (wpAny_storeSet_of ho hd ?_ (fits_of_scanBound hsz))
      have ho1 := store_at (es' := es1) (t' := t2) ho hd
      have sb1 := Heap.SameBut.update s.heap a (Obj.putSet es1 t2)
      split
      · have pr := relayAll_perm t2 es1 (SetTable.grown es1.size)
        have hf3 := relayAll_fits t2 es1 (SetTable.grown es1.size)
        have hr3 := relayAll_ris t2 es1 (SetTable.grown es1.size)
        have hl3 := relayAll_led t2 es1 (SetTable.grown es1.size)
        generalize relayAll t2 es1 (SetTable.grown es1.size) = Z at pr hf3 hr3 hl3 ⊢
        obtain ⟨es2, t3, gave⟩ := Z
        dsimp only at pr hf3 hr3 hl3 ⊢
        have hb2 : es2.size < scanBound := by
          rw [← Array.length_toList, pr.length_eq, Array.length_toList]; exact hsz
        refine wpAny_bind (hg _ _ _ (wpAny_bind (wpAny_storeSet_of ho1 rfl ?_ (fits_of_scanBound hb2))))
        exact wpAny_pure (hR _ _ (sb1.trans (Heap.SameBut.update _ a _)) ⟨_, es2, _, t3, store_at (es' := es2) (t' := t3) ho1 rfl, hex, rfl, fun e he => g1 e (pr.mem_iff.mp he), (pr.map enK).trans pk, nd1, hb2, hf3, hr3,
          hl2.imp id fun z => by rw [hl3]; exact z⟩)
      · exact wpAny_pure (hR _ _ sb1 ⟨_, es1, _, t2, ho1, hex, rfl, g1, pk, nd1, hsz, hf2, hr2, hl2⟩)
    have hgw : ∀ (b : Bool) {s₁ : Shared} {Q' : Unit → Shared → Prop}, Q' () s₁ → wpAny (model P w) A (match b with | true => rule "set.scan.the-table-gave-way" | false => pure ()) Q' E s₁ :=
      fun b s₁ Q' q => by cases b <;> first | exact wpAny_pure q | exact wpAny_rule q
    refine wpAny_bind (hgw _ ?_)
    split
    · refine wpAny_bind ?_
      rw [hashByValue_scannable 8 hsc]
      refine wpAny_pure (tail _ _ _ ?_ ?_ ?_ ?_ _ ?_)
      · intro b s₁ Q' q; cases b <;> first | exact wpAny_pure q | exact wpAny_rule q
      · first | (split <;> first | exact hf1 | exact SetTable.fits_plain_off hf1) | exact hf1
      · first | (split <;> exact hr1) | exact hr1
      · first | (split <;> exact hled) | exact hled
      · intro h' b sb r; dsimp only; exact wpAny_pure (hQ h' b sb r)
    · refine wpAny_bind (wpAny_pure ?_)
      simp only [↓reduceIte]
      refine tail _ _ _ ?_ hf1 hr1 hled _ ?_
      · intro b s₁ Q' q; cases b <;> first | exact wpAny_pure q | exact wpAny_rule q
      · intro h' b sb r; dsimp only; exact wpAny_pure (hQ h' b sb r)

theorem setX_fresh {h : Heap} {a : Addr} (ho : h.get? a = some { cls := .type "set", dict := none, data := .set #[] 0 (.fresh 0 0 (!w.params.followText "set-order")) }) : SetX P w h a [] :=
  ⟨_, #[], 0, _, ho, ⟨rfl, rfl, rfl⟩, rfl, (fun e he => by simp at he), .nil, List.nodup_nil, (by decide), (by rfl), List.Pairwise.nil, by
    show _ ∨ (!w.params.followText "set-order") = true
    cases w.params.followText "set-order"
    · exact .inr rfl
    · exact .inl rfl⟩
theorem addsK_len : ∀ (l ks : List L2.Key), (l.foldl addK ks).length ≤ ks.length + l.length
  | [], ks => Nat.le_refl _
  | k :: l, ks => by
    rw [List.foldl_cons, List.length_cons]
    have := addsK_len l (addK ks k)
    have := addK_len ks k
    omega

/-- set.update's loop -/
theorem setX_loop {I : Addr} {fp wr : List Addr} {G : Array GenState → Array GenState → Prop} {n : Nat} {Pv : Nat → Value → Prop} {St : Nat → Shared → Prop} {R : Result → Shared → Prop}
    (W : WalksS P w A.in1 I fp wr G n Pv St) (S : Addr) (hSf : S ∉ fp) (l : List L2.Key) (hn : n = l.length) (hb : l.length + 1 < scanBound) (hval : ∀ i v, Pv i v → ∃ k, l[i]? = some k ∧ RelV (kV k) v) :
    ∀ (k i : Nat) (s : Shared), n - i = k → i ≤ n → St i s → SetX P w s.heap S ((l.take i).foldl addK []) →
      (∀ s', Moved (S :: wr) G s s' → SetX P w s'.heap S (l.foldl addK []) → R (.ok (.ret .none)) s') →
      codeAny (model P w) A (.builtin "set.update.loop" ⟨[.ref S, .ref I], []⟩) R s := by
  have hSw : S ∉ wr := fun h => hSf (W.sub _ h)
  have hsub : ∀ b ∈ wr, b ∈ S :: wr := fun b hb => List.mem_cons_of_mem _ hb
  intro k
  induction k with
  | zero =>
    intro i s hk hi hst hS hR
    have hin : i = n := by omega
    subst hin
    refine codeAny_builtin F.entry_set_update_loop ?_
    rw [Around.under_plainId F.plain_set_update_loop _]
    show wpAny _ A.in1 (pyNext (.ref I) >>= _) _ _ s
    refine wpAny_bind (W.done s _ _ hst fun s' hm => ?_)
    show wpAny _ A.in1 (ret Value.none) _ _ s'
    have e : l.take i = l := by rw [hn, List.take_length]
    rw [e] at hS
    exact wpAny_pure (hR s' (hm.mono hsub) (hS.keep fun o e => hm.heap S o hSw e))
  | succ k ih =>
    intro i s hk hi hst hS hR
    have hlt : i < n := by omega
    refine codeAny_builtin F.entry_set_update_loop ?_
    rw [Around.under_plainId F.plain_set_update_loop _]
    show wpAny _ A.in1 (pyNext (.ref I) >>= _) _ _ s
    refine wpAny_bind (W.item i s _ _ hlt hst fun v s' hP hst' hm => ?_)
    obtain ⟨y, hy, ry⟩ := hval i v hP
    have hS' : SetX P w s'.heap S ((l.take i).foldl addK []) := hS.keep fun o e => hm.heap S o hSw e
    show wpAny _ A.in1 (holding [v] (setAdd S v) >>= _) _ _ s'
    refine wpAny_bind (wpAny_holding ?_)
    unfold setAdd
    refine wpAny_holding (wpAny_bind ((mixKind P w).pyHash (k := y) (kV_is ry) ?_))
    have room : ((l.take i).foldl addK []).length + 1 < scanBound := by
      have := addsK_len (l.take i) []
      rw [List.length_take] at this
      simp only [List.length_nil] at this
      omega
    refine setX_add (s := { s' with toks := s'.toks + 1 }) ry hS' room fun h' b hsb hS2 => ?_
    have e : l.take (i + 1) = l.take i ++ [y] := by rw [List.take_add_one, hy]; rfl
    have hS3 : SetX P w h' S ((l.take (i + 1)).foldl addK []) := by
      rw [e, List.foldl_append]
      exact hS2
    refine wpAny_pure ⟨plainId_quiet F.plain_set_update_loop _, ih (i + 1) _ (by omega) hlt (W.frame _ s' _ _ hst' (Nat.le_succ _) fun b hb o e => ?_) hS3 fun s'' hm'' hS'' => ?_⟩
    · rw [hsb.2 b (fun h : b = S => hSf (by rw [← h]; exact hb))]; exact e
    · refine hR s'' (Moved.trans W.gtrans ((hm.mono hsub).then_heap (Nat.le_succ _) fun b o hb e => ?_) hm'') hS''
      rw [hsb.2 b (fun h : b = S => hb (by rw [h]; exact List.mem_cons_self))]; exact e

/-- set(xs) -/
theorem call_setX {l : Addr} {items : Array Value} (yl : List L2.Key) {Q : Value → Shared → Prop} (hh : A.handled = none) (hl : s.heap.IsList l items) (hi : Vals (yl.map kV) items.toList) (hb : yl.length + 1 < scanBound)
    (h : ∀ (h' : Heap) (tk : Nat), SetX P w h' s.heap.objs.size (yl.foldl addK []) → (∀ b o, s.heap.get? b = some o → h'.get? b = some o) → Q (.ref s.heap.objs.size) { s with heap := h', toks := tk }) :
    wpAny (model P w) A (call (.type "set") [.ref l]) Q E s := by
  have hisz : items.size = yl.length := by
    have q : (yl.map kV).length = items.toList.length := hi.length
    rw [List.length_map, Array.length_toList] at q
    exact q.symm
  obtain ⟨c, tl, hmro⟩ := F.called_set.mro
  have hmade := F.called_set.made
  have hsub := F.called_set.sub
  refine wpAny_call (codeAny_of_tree ?_)
  show wpAny _ _ (callAny (.type "set") _) _ _ _
  refine wpAny_pure ⟨Code.quiet_builtin _ (by decide +kernel), codeAny_builtin F.entry_type_call ?_⟩
  rw [Around.under_plain (weight_type_call_type "set" [.ref l] []) rfl]
  have h1 := F.called_set.notType
  have h2 := F.called_set.canCreate
  have hct := F.typeCall_set_1 (.ref l)
  repeat (any_goals (first | assumption | wp_step))
  refine codeAny_mono (code_set_led1 (.ref l) (E := E) (Q₁ := fun obj s₁ => obj = .ref s.heap.objs.size ∧ s₁ = { s with heap := s.heap.push { cls := .type "set", dict := none, data := .set #[] 0 (.fresh 0 0 (!w.params.followText "set-order")) } }) ⟨rfl, rfl⟩) fun r s₁ hr => ?_
  cases r with
  | error e => exact hr
  | ok fl =>
    cases fl with
    | ret obj =>
      obtain ⟨rfl, rfl⟩ := hr
      have hS : (s.heap.push { cls := .type "set", dict := none, data := .set #[] 0 (.fresh 0 0 (!w.params.followText "set-order")) }).get? s.heap.objs.size = some { cls := .type "set", dict := none, data := .set #[] 0 (.fresh 0 0 (!w.params.followText "set-order")) } := Heap.get?_push_size _ rfl
      have hT : Shared.TypeIs { s with heap := s.heap.push { cls := .type "set", dict := none, data := .set #[] 0 (.fresh 0 0 (!w.params.followText "set-order")) } } (.ref s.heap.objs.size) "set" := ⟨_, hS, rfl⟩
      have hli := F.called_set.init.lookup
      have hbi := F.called_set.init.bind (.ref s.heap.objs.size)
      repeat (any_goals (first | assumption | wp_step))
      refine codeAny_mono (codeAny_call_builtin (R := wants (fun r s₂ => r = .none ∧ ∃ h' tk, s₂ = { s with heap := h', toks := tk } ∧ SetX P w h' s.heap.objs.size (yl.foldl addK []) ∧
          (∀ b o, s.heap.get? b = some o → h'.get? b = some o)) E) F.called_set.init.plain F.entry_set_init (check_set_init_1 hT ?_)) fun r₂ s₂ hr₂ => ?_
      · obtain ⟨ol, hol, hcl, nl, hdl⟩ := hl
        obtain ⟨ocls, odict, odata, oslots⟩ := ol
        simp only at hcl hdl
        subst hcl; subst hdl
        have hol' : (s.heap.push { cls := .type "set", dict := none, data := .set #[] 0 (.fresh 0 0 (!w.params.followText "set-order")) }).get? l = some { cls := .type "list", dict := odict, data := .seq items nl, slots := oslots } := Heap.get?_push_of_some _ hol
        have hsls := F.sub_list_set
        have hslf := F.sub_list_frozenset
        have hne : (Value.type "list" == Value.type "dict") = false := by decide
        have hl1 : (s.heap.push { cls := .type "set", dict := none, data := .set #[] 0 (.fresh 0 0 (!w.params.followText "set-order")) }).IsList l items := ⟨_, hol', rfl, nl, rfl⟩
        unfold Builtin.«set.__init__» noKeywords Builtin.Frozenset.updateFrom
        generalize hPI : pyIter = PI
        wp_walk
        subst hPI
        refine wpAny_pyIter_list hl1 (wpAny_bind (wpAny_runValue ?_))
        have hlS : l < s.heap.objs.size := Heap.lt_size hol
        have hh3 : A.in1.in1.in1.handled = none := by simp [hh]
        have hneI : l ≠ (s.heap.push { cls := .type "set", dict := none, data := .set #[] 0 (.fresh 0 0 (!w.params.followText "set-order")) }).objs.size := by
          rw [Heap.size_push]; exact Nat.ne_of_lt (Nat.lt_succ_of_lt hlS)
        have hSf : s.heap.objs.size ∉ [(s.heap.push { cls := .type "set", dict := none, data := .set #[] 0 (.fresh 0 0 (!w.params.followText "set-order")) }).objs.size, l] := by
          rw [Heap.size_push]; simp only [List.mem_cons, List.mem_singleton, List.not_mem_nil, or_false, not_or]
          exact ⟨Nat.ne_of_lt (Nat.lt_succ_self _), Nat.ne_of_gt hlS⟩
        have hval : ∀ (i : Nat) (v : Value), items[i]? = some v → ∃ k, yl[i]? = some k ∧ RelV (kV k) v := fun i v hv => by
          have q : items.toList[i]? = some v := by rw [Array.getElem?_toList]; exact hv
          have hlt : i < yl.length := by
            rw [← hisz]
            exact (Array.getElem?_eq_some_iff.mp hv).1
          obtain ⟨u, e1, r1⟩ := hi.get (i := i) (x := kV yl[i]) (by rw [List.getElem?_map, List.getElem?_eq_getElem hlt]; rfl)
          rw [q] at e1
          cases e1
          exact ⟨_, List.getElem?_eq_getElem hlt, r1⟩
        refine setX_loop ((Walks.list hh3 _ l hneI items).toS) s.heap.objs.size
          hSf yl hisz hb hval (items.size - 0) 0 _ (by omega) (Nat.zero_le _)
          ⟨⟨_, Heap.get?_push_size _ rfl, rfl, rfl⟩, (hl1.push _)⟩ ?hS0 ?hR
        case hS0 =>
          exact setX_fresh (Heap.get?_push_of_some _ hS)
        case hR =>
          intro s' hm hS'
          obtain ⟨h', g2, d', tk', os'⟩ := s'
          have eg : g2 = s.gens := hm.gens
          have ed : d' = s.drawn := hm.drawn
          have eo : os' = s.os := hm.os
          subst eg; subst ed; subst eo
          show wpAny _ _ _ _ _ _
          refine wpAny_pure ?_
          show wpAny _ _ (ret Value.none) _ _ _
          refine wpAny_pure ⟨rfl, h', tk', rfl, hS', fun b o e => ?_⟩
          have hb : b < s.heap.objs.size := Heap.lt_size e
          have hb1 : b ≠ s.heap.objs.size := Nat.ne_of_lt hb
          have hb2 : b ≠ (s.heap.push { cls := .type "set", dict := none, data := .set #[] 0 (.fresh 0 0 (!w.params.followText "set-order")) }).objs.size := by
            rw [Heap.size_push]; exact Nat.ne_of_lt (Nat.lt_succ_of_lt hb)
          exact hm.heap b o (by simp only [List.mem_cons, List.mem_singleton, List.not_mem_nil, or_false, not_or]; exact ⟨hb1, hb2⟩) (Heap.get?_push_of_some _ (Heap.get?_push_of_some _ e))
      · cases r₂ with
        | error e => exact hr₂
        | ok fl₂ =>
          cases fl₂ with
          | ret r =>
            obtain ⟨rfl, h', tk, rfl, hS', hk'⟩ := hr₂
            repeat (any_goals (first | assumption | wp_step))
            exact h _ _ hS' hk'
          | _ => exact hr₂.elim
    | _ => exact hr.elim

/-- sorted(a set), its keys the items of ds -/
theorem sorted_setX {β : Type} {enc : β → PyData} {key : β → L2.Key} {bs : List β} {Q : Value → Shared → Prop} (R : SetX P w s.heap a (bs.map key)) (hh : A.handled = none) (hu : A.units + 10 < cLine)
    (hk : ∀ b v h, RelV (kV (key b)) v → Reads h v (enc b) []) (hd : ∀ b, (enc b).depth = 0) (hal : PySem.W.AllAlike (bs.map enc)) (hs : PySem.W.Sortable (bs.map enc)) (hL : bs.length < scanBound)
    (hQ : ∀ s' p (out : List Value) (c : Nat) (bs' : List β), (∀ b o, s.heap.get? b = some o → s'.heap.get? b = some o) → s'.gens = s.gens → s'.os = s.os → s.heap.objs.size ≤ p →
      s'.heap.get? p = some (seqObj "list" out.toArray c) → bs'.Perm bs → Vals ((bs'.mergeSort (PySem.W.dataLe false enc)).map fun b => kV (key b)) out → Q (.ref p) s') :
    wpAny (model P w) A (call (.builtin "sorted") [.ref a]) Q E s := by
  obtain ⟨o, es, ep, t, ho, hex, hdt, g, pm0, nd, hb, hf, hr, hl⟩ := R
  refine Calls.call_function_entry kind_sorted plain_sorted entry_sorted (args_sorted1 _) ?_
  unfold Builtin.«sorted»
  refine wpAny_bind (m := checkCount "sorted" 1 1 _) (wpAny_pure ?_)
  refine wpAny_bind (collect_set (A := A.in1) hh ⟨o, ho, hex.1, hdt⟩ hf hb hr hl fun s1 vs k1 hz g1 o1 pm => ?_)
  obtain ⟨bs', pb, hvs⟩ : ∃ bs' : List β, bs'.Perm bs ∧ PySem.W.EachIs (fun v b => RelV (kV (key b)) v) vs bs' := by
    have hall : ∀ v ∈ vs, RelV (kV (enK (0, v))) v := fun v hv => by
      obtain ⟨e, he, q⟩ := List.mem_map.mp (pm.mem_iff.mp hv)
      have := (g e he).1
      rw [← q]
      exact this
    have pv : (vs.map fun v => enK (0, v)).Perm (bs.map key) := by
      refine (pm.map fun v => enK (0, v)).trans ?_
      rw [List.map_map]
      exact pm0
    obtain ⟨bs', p1, e1⟩ := perm_map pv (l := bs) (f := key) rfl
    refine ⟨bs', p1, ?_⟩
    have go : ∀ (vs : List Value) (bs' : List β), (∀ v ∈ vs, RelV (kV (enK (0, v))) v) → (vs.map fun v => enK (0, v)) = bs'.map key → PySem.W.EachIs (fun v b => RelV (kV (key b)) v) vs bs' := by
      intro vs
      induction vs with
      | nil =>
        intro bs' _ e
        cases bs' with
        | nil => exact .nil
        | cons _ _ => simp at e
      | cons v vs ih =>
        intro bs' hv e
        cases bs' with
        | nil => simp at e
        | cons b bs' =>
          simp only [List.map_cons, List.cons.injEq] at e
          exact .cons (e.1 ▸ hv v List.mem_cons_self) (ih bs' (fun u hu => hv u (List.mem_cons_of_mem _ hu)) e.2)
    exact go vs bs' hall e1
  have hvl : vs.length = bs.length := by rw [hvs.length, pb.length_eq]
  have hvb : vs.length ≤ sizeLine := by rw [hvl]; exact fits_of_scanBound hL
  refine wpAny_bind (wpAny_newList ?_ hvb)
  have hoL : (s1.heap.push (seqObj "list" vs.toArray 0)).get? s1.heap.objs.size = some (seqObj "list" vs.toArray 0) := Heap.get?_push_size _ rfl
  refine wpAny_bind (wpAny_holding (PySem.W.list_sort_data (s := { s1 with heap := s1.heap.push (seqObj "list" vs.toArray 0) }) (enc := enc) hoL hvs (hvs.mono fun v b r => ⟨[], hk b v _ r, by simp⟩) ?_ ?_ ?_ ?_ fun out ho2 eo => ?_))
  · intro d hd' d' hd2
    obtain ⟨x, hx, rfl⟩ := List.mem_map.mp hd'
    obtain ⟨y, hy, rfl⟩ := List.mem_map.mp hd2
    exact hal _ (List.mem_map.mpr ⟨x, pb.mem_iff.mp hx, rfl⟩) _ (List.mem_map.mpr ⟨y, pb.mem_iff.mp hy, rfl⟩)
  · rcases hs with hs | hs
    · refine .inl fun d hd' => ?_
      obtain ⟨x, hx, rfl⟩ := List.mem_map.mp hd'
      exact hs _ (List.mem_map.mpr ⟨x, pb.mem_iff.mp hx, rfl⟩)
    · refine .inr fun d hd' => ?_
      obtain ⟨x, hx, rfl⟩ := List.mem_map.mp hd'
      exact hs _ (List.mem_map.mpr ⟨x, pb.mem_iff.mp hx, rfl⟩)
  · rw [pb.length_eq]; exact fits_of_scanBound hL
  · intro b hb'
    rw [hd b]
    show A.in1.units + 1 + 0 < cLine
    have : A.in1.units ≤ A.units + 2 := by
      first | (simp; done) | (simp <;> omega)
    omega
  · obtain ⟨c, hc⟩ := sortedHeap_at (vs := vs) (out := out.toArray) hoL
    refine wpAny_pure ⟨_, rfl, hQ _ s1.heap.objs.size out c bs' (fun b u e => ?_) g1 o1 hz hc pb ?_⟩
    · have q := k1 b u e
      have hlt := Heap.lt_size q
      show (sortedHeap (s1.heap.push (seqObj "list" vs.toArray 0)) s1.heap.objs.size vs out.toArray).get? b = some u
      rw [sortedHeap_old (Nat.ne_of_lt hlt) (by rw [size_push']; exact Nat.lt_succ_of_lt hlt)]
      exact Heap.get?_push_of_some _ q
    · have go : ∀ {vs : List Value} {bs : List β}, PySem.W.EachIs (fun v b => RelV (kV (key b)) v) vs bs → Vals (bs.map fun b => kV (key b)) vs := by
        intro vs bs h
        induction h with
        | nil => exact .nil
        | cons h t ih => exact .cons h ih
      exact go eo
end
end Ti
end

section
/-! sorted(set(xs)); a dict display of one pair. -/
namespace Ti
open PySem PySem.Spec PyProof.Rows L2
variable [PWc]

/-! ### what is unlike -/
theorem addK_foldl {α : Type} [BEq α] [LawfulBEq α] (f : α → L2.Key) (hf : ∀ a b, f a = f b → a = b) : ∀ (n : Nat) (l acc : List α), l.length ≤ n → (l.map f).foldl addK (acc.map f) = (acc ++ (l.filter fun x => !acc.contains x).eraseDups).map f := by
  intro n
  induction n with
  | zero =>
    intro l acc h
    cases l with
    | nil => simp
    | cons _ _ => simp at h
  | succ n ih =>
    intro l acc h
    cases l with
    | nil => simp
    | cons a l =>
      rw [List.map_cons, List.foldl_cons]
      rcases Classical.em (a ∈ acc) with m | m
      · rw [addK_in (List.mem_map.mpr ⟨a, m, rfl⟩), ih l acc (by simpa using h), List.filter_cons]
        simp [m]
      · have m' : f a ∉ acc.map f := fun z => by
          obtain ⟨b, hb, e⟩ := List.mem_map.mp z
          exact m (hf _ _ e ▸ hb)
        have e0 : acc.map f ++ [f a] = (acc ++ [a]).map f := by simp
        rw [addK_out m', e0, ih l (acc ++ [a]) (by simpa using h), List.filter_cons]
        have e1 : acc.contains a = false := by simpa using m
        rw [e1]
        simp only [Bool.not_false, if_true, List.eraseDups_cons, List.filter_filter]
        have e2 : (fun x => !(acc ++ [a]).contains x) = fun x => (!acc.contains x) && (!(x == a)) := by
          funext x
          rw [List.contains_eq_any_beq, List.any_append]
          simp only [List.any_cons, List.any_nil, Bool.or_false, Bool.not_or, List.contains_eq_any_beq]
        rw [e2]
        have e3 : (fun x => (!acc.contains x) && (!(x == a))) = fun x => (!(x == a)) && (!acc.contains x) := by
          funext x
          rw [Bool.and_comm]
        first | (rw [e3]; simp; done) | (simp; done) | (rw [← e3]; simp)
theorem addsK_of {α : Type} [BEq α] [LawfulBEq α] (f : α → L2.Key) (hf : ∀ a b, f a = f b → a = b) (l : List α) : (l.map f).foldl addK [] = l.eraseDups.map f := by
  have := addK_foldl f hf l.length l [] (Nat.le_refl _)
  have e : (l.filter fun x => !([] : List α).contains x) = l := List.filter_eq_self.mpr fun x _ => rfl
  rw [e] at this
  simpa using this
theorem eraseDups_len {α : Type} [BEq α] [LawfulBEq α] : ∀ (n : Nat) (l : List α), l.length ≤ n → l.eraseDups.length ≤ l.length := by
  intro n
  induction n with
  | zero =>
    intro l h
    cases l with
    | nil => simp
    | cons _ _ => simp at h
  | succ n ih =>
    intro l h
    cases l with
    | nil => simp
    | cons a l =>
      rw [List.eraseDups_cons, List.length_cons, List.length_cons]
      have h1 := List.length_filter_le (fun b => !(b == a)) l
      have h2 := ih (l.filter fun b => !(b == a)) (by rw [List.length_cons] at h; omega)
      omega
theorem sortD_ints_perm {ns ms : List Int} (h : ns.Perm ms) : sortD (ns.map D.int) = sortD (ms.map D.int) := by
  have hp : (ns.mergeSort fun a b => decide (a ≤ b)).Pairwise (· ≤ ·) := by
    have := List.pairwise_mergeSort (le := fun (a b : Int) => decide (a ≤ b)) (fun a b c h1 h2 => by simp at *; omega) (fun a b => by simp; omega) ns
    exact this.imp fun h => by simpa using h
  rw [key_sort_ints (List.mergeSort_perm ns _) hp, key_sort_ints ((List.mergeSort_perm ns _).trans h) hp]
theorem sortD_strs_perm {ns ms : List String} (h : ns.Perm ms) : sortD (ns.map D.str) = sortD (ms.map D.str) := by
  have hp : (ns.mergeSort fun a b => decide (codes a ≤ codes b)).Pairwise fun a b => ¬ codes b < codes a := by
    have := List.pairwise_mergeSort (le := fun (a b : String) => decide (codes a ≤ codes b)) (fun a b c h1 h2 => by
      simp only [decide_eq_true_eq] at *
      exact List.le_trans h1 h2) (fun a b => by
      simp only [Bool.or_eq_true, decide_eq_true_eq]
      exact List.le_total _ _) ns
    exact this.imp fun h => List.not_lt.mpr (by simpa using h)
  rw [key_sort_strs (List.mergeSort_perm ns _) hp, key_sort_strs ((List.mergeSort_perm ns _).trans h) hp]
theorem strsD_map : ∀ {xs : List D} {zs : List String}, strsD xs = some zs → xs = zs.map D.str
  | [], zs, h => by cases h; rfl
  | x :: xs, zs, h => by
    cases x <;> simp only [strsD] at h <;> try cases h
    rw [Option.map_eq_some_iff] at h
    obtain ⟨ys, h1, rfl⟩ := h
    rw [strsD_map h1]; rfl
theorem intsD_map : ∀ {xs : List D} {zs : List Int}, intsD xs = some zs → xs = zs.map D.int
  | [], zs, h => by cases h; rfl
  | x :: xs, zs, h => by
    cases x <;> simp only [intsD] at h <;> try cases h
    rw [Option.map_eq_some_iff] at h
    obtain ⟨ys, h1, rfl⟩ := h
    rw [intsD_map h1]; rfl

section
variable {cf : Nat → List Arg → Rs} {io : List Nat} {X : Cx}
theorem keyOf_some {d : D} (h : keyOk d = true) : ∃ k, keyOf d = some k := by
  cases d <;> first | (cases h; done) | exact ⟨_, rfl⟩
def dKey (d : D) : L2.Key := (keyOf d).getD (.inl 0)
theorem rp_key {K : PySem.W.Frag} {H : Hp} {Dz : Addr → Prop} {d : D} {v : V} {G : List Addr} {k : Nat} (h : keyOk d = true) (r : Rp K H Dz k d v G) : v = kV (dKey d) ∧ keyFit d := by
  cases r with
  | int i => exact ⟨rfl, trivial⟩
  | str x hx => exact ⟨rfl, hx⟩
  | _ => cases h
theorem key_rp {K : PySem.W.Frag} {H : Hp} {Dz : Addr → Prop} {d : D} (h : keyOk d = true) (f : keyFit d) : Rp K H Dz 0 d (kV (dKey d)) [] := by
  cases d <;> first | (cases h; done) | exact .int _ | exact .str _ f
theorem rps_keys {K : PySem.W.Frag} {H : Hp} {Dz : Addr → Prop} : ∀ {xs : List D} {vs : List V}, (∀ d ∈ xs, keyOk d = true) → Rps K H Dz 0 xs vs [] → vs = (xs.map dKey).map kV ∧ ∀ d ∈ xs, keyFit d
  | [], vs, _, r => by
    rcases r.inv0 with ⟨_, rfl⟩ | ⟨d, ds, v, vs, e, _⟩
    · exact ⟨rfl, fun d m => by cases m⟩
    · cases e
  | x :: xs, vs, h, r => by
    rcases r.inv0 with ⟨e, _⟩ | ⟨d, ds, v, vs, e, rfl, r1, r2⟩
    · cases e
    · cases e
      obtain ⟨e1, f1⟩ := rp_key (h _ List.mem_cons_self) r1
      obtain ⟨e2, f2⟩ := rps_keys (fun d m => h d (List.mem_cons_of_mem _ m)) r2
      refine ⟨by rw [e1, e2]; rfl, fun d m => ?_⟩
      rcases List.mem_cons.mp m with rfl | m
      · exact f1
      · exact f2 d m
theorem keys_rps0 {K : PySem.W.Frag} {H : Hp} {Dz : Addr → Prop} : ∀ {xs : List D}, (∀ d ∈ xs, keyOk d = true) → (∀ d ∈ xs, keyFit d) → Rps K H Dz 0 xs (xs.map fun d => kV (dKey d)) []
  | [], _, _ => .nil
  | x :: xs, h, f => Rps.cons (F := []) (G := []) (key_rp (h x List.mem_cons_self) (f x List.mem_cons_self)) (keys_rps0 (fun d m => h d (List.mem_cons_of_mem _ m)) fun d m => f d (List.mem_cons_of_mem _ m))
theorem setD_spec {xs : List D} (h : keySet xs = true) : (∀ d ∈ xs, keyOk d = true) ∧ xs.length < 4000 ∧ (xs.map dKey).foldl addK [] = (setD xs).map dKey ∧ (∀ d ∈ setD xs, d ∈ xs) ∧ (setD xs).length ≤ xs.length ∧
    (PySem.W.AllAlike ((setD xs).map D.pd)) ∧ PySem.W.Sortable ((setD xs).map D.pd) ∧ ∀ ds, ds.Perm (setD xs) → sortD ds = sortD (setD xs) := by
  unfold keySet at h
  simp only [Bool.and_eq_true, Bool.or_eq_true, decide_eq_true_eq] at h
  obtain ⟨h, hl⟩ := h
  have perm : ∀ {α : Type} {f : α → D} {ds : List D} {l : List α}, ds.Perm (l.map f) → ∃ l' : List α, l'.Perm l ∧ ds = l'.map f := fun p => perm_map p rfl
  cases q : intsD xs with
  | some ns =>
    have e := intsD_map q
    have es : setD xs = ns.eraseDups.map D.int := by unfold setD; rw [q]
    rw [es]
    refine ⟨fun d m => ?_, hl, ?_, fun d m => ?_, ?_, ?_, .inr fun d m => ?_, fun ds p => ?_⟩
    · rw [e] at m
      obtain ⟨i, _, rfl⟩ := List.mem_map.mp m; rfl
    · rw [e, List.map_map, List.map_map]
      exact addsK_of (fun i : Int => (Sum.inl i : L2.Key)) (fun a b z => Sum.inl.inj z) ns
    · obtain ⟨i, m1, rfl⟩ := List.mem_map.mp m
      rw [e]
      exact List.mem_map.mpr ⟨i, List.mem_eraseDups.mp m1, rfl⟩
    · rw [e, List.length_map, List.length_map]; exact eraseDups_len _ _ (Nat.le_refl _)
    · intro d m d' m'
      rw [List.map_map] at m m'
      obtain ⟨i, _, rfl⟩ := List.mem_map.mp m
      obtain ⟨j, _, rfl⟩ := List.mem_map.mp m'
      simp [D.pd, PySem.W.alike]
    · rw [List.map_map] at m
      obtain ⟨i, _, rfl⟩ := List.mem_map.mp m
      simp [D.pd]
    · obtain ⟨l', p', rfl⟩ := perm p
      exact sortD_ints_perm p'
  | none =>
    rw [q] at h
    simp only [Option.isSome_none, Bool.false_eq_true, false_or] at h
    obtain ⟨zs, q2⟩ := Option.isSome_iff_exists.mp h
    have e := strsD_map q2
    have es : setD xs = zs.eraseDups.map D.str := by unfold setD; rw [q, q2]
    rw [es]
    refine ⟨fun d m => ?_, hl, ?_, fun d m => ?_, ?_, ?_, .inr fun d m => ?_, fun ds p => ?_⟩
    · rw [e] at m
      obtain ⟨i, _, rfl⟩ := List.mem_map.mp m; rfl
    · rw [e, List.map_map, List.map_map]
      exact addsK_of (fun i : String => (Sum.inr (Str.ofString i) : L2.Key)) (fun a b z => ofString_inj.mp (Sum.inr.inj z)) zs
    · obtain ⟨i, m1, rfl⟩ := List.mem_map.mp m
      rw [e]
      exact List.mem_map.mpr ⟨i, List.mem_eraseDups.mp m1, rfl⟩
    · rw [e, List.length_map, List.length_map]; exact eraseDups_len _ _ (Nat.le_refl _)
    · intro d m d' m'
      rw [List.map_map] at m m'
      obtain ⟨i, _, rfl⟩ := List.mem_map.mp m
      obtain ⟨j, _, rfl⟩ := List.mem_map.mp m'
      simp [D.pd, PySem.W.alike]
    · rw [List.map_map] at m
      obtain ⟨i, _, rfl⟩ := List.mem_map.mp m
      simp [D.pd]
    · obtain ⟨l', p', rfl⟩ := perm p
      exact sortD_strs_perm p'
theorem key_reads {d : D} {v : Value} {h : Heap} (k : keyOk d = true) (r : RelV (kV (dKey d)) v) : Reads h v d.pd [] := by
  cases d with
  | int i =>
    obtain ⟨t, rfl⟩ := (show ∃ t, v = Value.int i t from r)
    exact .int _ _
  | str x =>
    obtain ⟨t, rfl⟩ := (show ∃ t, v = Value.str (Str.ofString x) t from r)
    exact .str _ _
  | _ => cases k
/-- sorted(set(xs)) -/
def tSortSet (K : PySem.W.Frag) (ta : TE) : TE := fun σ H Q => ta σ H fun x H1 => ∃ (l : Addr) (Dz : Addr → Prop) (xs : List D) (vs : List V), x = .ref l ∧ H1 l = some (.lst vs) ∧ Rps K H1 Dz 0 xs vs [] ∧ keySet xs = true ∧ (∀ a, Dz a → H1 a ≠ none) ∧ Fin K H1 Dz 1 (.lst (sortD (setD xs))) Q
theorem pe_sortSet {a : Expr} {ta : TE} {p p2 q pos : Pos} (hc : X.calm = true) (hu : X.A.units + 100 < cLine) (hg : Gl X "sorted") (hm : X.mg "sorted" = none) (hg2 : Gl X "set") (hm2 : X.mg "set" = none) (ha : PE X a ta)
    (na : starEach [a] X.env = (false, eval a X.env) :: starEach [] X.env) : PE X (.Call (.Name "sorted" p) [.Call (.Name "set" p2) [a] [] q] [] pos) (tSortSet X.K ta) := by
  refine ⟨fun pins s σ H Q I h => ?_⟩
  have bs : bootBuiltins ("sorted" : Str) = some (.builtin "sorted") := by decide +kernel
  refine Call_ (ld_blt I hg hm bs ?_)
  refine PyProof.Rows.callWith_builtin1 (PyProof.Rows.args_cons ?_ rfl) rfl rfl
  refine Call_ (ld_blt I hg2 hm2 PyProof.Rows.boot_set ?_)
  refine PyProof.Rows.callWith_type1 (PyProof.Rows.args_cons (thn (ha.run pins s σ H _ I h) fun v s1 ⟨x, H1, I1, r1, q1⟩ => PyProof.Rows.args_nil ?_) na) na rfl
  obtain ⟨l, Dz, xs, vs, rfl, hl, hr, ok, tk, f⟩ := q1
  cases r1
  obtain ⟨its, rv, pl, hz⟩ := I1.list (SqL.of hl)
  obtain ⟨k1, k2, k3, k4, k5, k6, k7, k8⟩ := setD_spec ok
  obtain ⟨rfl, fit⟩ := rps_keys k1 hr
  refine call_setX (yl := xs.map dKey) (I1.ok.hd hc) pl.isList (by simpa using rv) (by rw [List.length_map]; unfold scanBound; omega) fun h' tk' hS keep => ?_
  rw [k3] at hS
  refine PyProof.Rows.args_nil ?_
  have I2 : L2.Inv X pins σ H1 { s1 with heap := h', toks := tk' } := I1.kept fun b o e => keep b o e
  have kk : ∀ d ∈ setD xs, keyOk d = true := fun d m => k1 d (k4 d m)
  refine sorted_setX (β := { d : D // d ∈ setD xs }) (enc := fun d => d.1.pd) (key := fun d => dKey d.1) (bs := (setD xs).attach) (s := { s1 with heap := h', toks := tk' }) ?_ (I1.ok.hd hc) (by omega) ?_ ?_ ?_ ?_ ?_ ?_
  · have e : (setD xs).attach.map (fun d => dKey d.1) = (setD xs).map dKey := by
      refine (List.map_map (f := Subtype.val) (g := dKey) (l := (setD xs).attach)).symm.trans ?_
      rw [List.attach_map_subtype_val]
    rw [e]; exact hS
  · exact fun b v h r => key_reads (kk b.1 b.2) r
  · intro b
    have := kk b.1 b.2
    revert this
    cases b.1 <;> intro z <;> first | (cases z; done) | simp [D.pd, PyData.depth]
  · have e : (setD xs).attach.map (fun d => d.1.pd) = (setD xs).map D.pd := by
      refine (List.map_map (f := Subtype.val) (g := D.pd) (l := (setD xs).attach)).symm.trans ?_
      rw [List.attach_map_subtype_val]
    rw [e]; exact k6
  · have e : (setD xs).attach.map (fun d => d.1.pd) = (setD xs).map D.pd := by
      refine (List.map_map (f := Subtype.val) (g := D.pd) (l := (setD xs).attach)).symm.trans ?_
      rw [List.attach_map_subtype_val]
    rw [e]; exact k7
  · rw [List.length_attach]; unfold scanBound; omega
  · intro s' p' out c bs' hk hgn hos hp hget pm hv
    have hperm : (bs'.map Subtype.val).Perm (setD xs) := by
      have := pm.map Subtype.val
      rwa [List.attach_map_subtype_val] at this
    have hs1 : (bs'.mergeSort (PySem.W.dataLe false fun d => d.1.pd)).map Subtype.val = sortD (setD xs) := by
      refine (PySem.W.sort_maps (r := PySem.W.dataLe false fun d : { d : D // d ∈ setD xs } => d.1.pd) (s := PySem.W.dataLe false D.pd) Subtype.val fun a _ b _ => rfl).trans ?_
      exact k8 _ hperm
    have hv2 : Vals ((sortD (setD xs)).map fun d => kV (dKey d)) out := by
      rw [← hs1, List.map_map]
      exact hv
    have hmem : ∀ d ∈ sortD (setD xs), d ∈ setD xs := fun d m => (List.mergeSort_perm _ _).mem_iff.mp m
    have hlen : ((sortD (setD xs)).map fun d => kV (dKey d)).length ≤ sizeLine := by
      have hz3 : (sortD (setD xs)).length = (setD xs).length := (List.mergeSort_perm (setD xs) _).length_eq
      rw [List.length_map, hz3, sizeLine_eq]; omega
    have hn : H1 p' = none := I2.hok.fresh hp
    have J : L2.Inv X pins σ (upd H1 p' (.lst ((sortD (setD xs)).map fun d => kV (dKey d)))) { (({ s1 with heap := h', toks := tk' } : Shared)) with heap := s'.heap, gens := s'.gens, drawn := s'.drawn, toks := s'.toks } :=
      I2.call (ch := []) (Un.laid hk hp hn) (I2.hok.laid hk hp ⟨hlen, out, c, hv2, hget⟩) (by rw [hgn]; exact I2.bare) (fun _ z => nomatch z)
    have e : s' = { (({ s1 with heap := h', toks := tk' } : Shared)) with heap := s'.heap, gens := s'.gens, drawn := s'.drawn, toks := s'.toks } := by
      cases s'
      cases s1
      cases hos
      rfl
    rw [e]
    exact ⟨.ref p', _, J, rfl, f.lst tk (keys_rps0 (fun d m => kk d (hmem d m)) fun d m => fit d (k4 d (hmem d m))) p' hn⟩
theorem good_sortset {e1 : E} {a : Expr} {p p2 pos q : Pos} (hu : X.A.units + 100 < cLine) (hc : X.calm = true) (hg : Gl X "sorted") (hm : X.mg "sorted" = none) (hg2 : Gl X "set") (hm2 : X.mg "set" = none) (h1 : Good cf io X e1 a) (hi1 : ∀ i, e1 ≠ .io i) (s1 : notStar a = true) :
    Good cf io X (.bi .sortset [e1]) (.Call (.Name "sorted" p) [.Call (.Name "set" p2) [a] [] q] [] pos) := by
  refine .of (PE.imp (pe_sortSet hc hu hg hm hg2 hm2 h1.val (star_cons s1 _ _)) ?_) rfl
  rintro σ H Q ⟨B, Dz, F, s, R, r, s', q, c⟩
  rw [evE] at q
  obtain ⟨as, t3, q2, q⟩ := Ev.bind_ok q
  obtain ⟨r1, t2, as1, qa, _, q3, rfl⟩ := evAs_cons hi1 q2
  rw [evAs] at q3
  cases q3
  split at q
  · rename_i rs e1
    simp only [AV.rvs, Option.map_some, Option.some.injEq] at e1
    subst e1
    split at q
    · rename_i ds e2
      obtain ⟨k, d, e, rfl, rfl⟩ := rk_ok q
      have e3 : shs [r1] = some ds := e2
      have hds := shs_map e3
      subst hds
      refine tE.next cf io R qa fun Dz1 F1 H1 v G1 u1 R1 o1 g1 => ?_
      obtain ⟨G1', p1⟩ := o1.rp
      have hk : r1.k ≤ 1 := by
        unfold shs at e3
        split at e3
        · rename_i d ds' z1 z2
          unfold RV.sh at z1
          split at z1
          · assumption
          · cases z1
        · cases e3
      simp only [List.map_cons, List.map_nil, biD] at e
      cases hd : r1.d with
      | lst xs =>
        rw [hd] at e p1
        simp only [bi1] at e
        split at e
        · rename_i ok
          cases e
          obtain ⟨l, vs, rfl, hl, hr⟩ := p1.lst1 hk
          exact ⟨l, Dz1, xs, vs, rfl, hl, hr, ok, R1.tk, c.fin (u1.mono fun i hi => by simpa [E.muts, E.mutss] using hi) R1⟩
        · cases e
      | _ => rw [hd] at e; simp only [bi1] at e; cases e
    · cases q
  · cases q

/-! ### {k: v} -/
section
variable {K : PySem.W.Frag} {B Dz : Addr → Prop} {F : Nat → List Addr} {H : Hp} {s : Sl} {σ : L2.St}
theorem Rp.poke {p : Addr} {o : HO} {k : Nat} {d : D} {v : V} {G : List Addr} (hp : Mut (H p)) (nd : ¬ Dz p) (ng : p ∉ G) (h : Rp K H Dz k d v G) : Rp K (upd H p o) Dz k d v G :=
  h.stay (fun _ z => z) (fun a u e nm => by
    have : a ≠ p := fun z => nm (by rw [z] at e; rw [← e]; exact hp)
    rw [upd_ne this]; exact e) (fun a u e z => by
    have : a ≠ p := fun y => nd (y ▸ z)
    rw [upd_ne this]; exact e) fun a u e m => by
    have : a ≠ p := fun y => ng (y ▸ m)
    rw [upd_ne this]; exact e
theorem Rps.poke {p : Addr} {o : HO} {k : Nat} {d : List D} {v : List V} {G : List Addr} (hp : Mut (H p)) (nd : ¬ Dz p) (ng : p ∉ G) (h : Rps K H Dz k d v G) : Rps K (upd H p o) Dz k d v G :=
  h.stay (fun _ z => z) (fun a u e nm => by
    have : a ≠ p := fun z => nm (by rw [z] at e; rw [← e]; exact hp)
    rw [upd_ne this]; exact e) (fun a u e z => by
    have : a ≠ p := fun y => nd (y ▸ z)
    rw [upd_ne this]; exact e) fun a u e m => by
    have : a ≠ p := fun y => ng (y ▸ m)
    rw [upd_ne this]; exact e
theorem Rel.poke2 {p : Addr} {o : HO} (R : Rel K B Dz F s σ H) (hp : Mut (H p)) (mo : Mut (some o)) (nd : ¬ Dz p) (nf : ∀ i, p ∉ F i) (nb : ¬ B p) : Rel K B Dz F s σ (upd H p o) := by
  have some_of : ∀ a, H a ≠ none → upd H p o a ≠ none := fun a z => by
    by_cases e : a = p
    · rw [e, upd_same]; exact fun z => nomatch z
    · rw [upd_ne e]; exact z
  refine ⟨R.len, fun i x e => ?_, R.nd, R.dj, R.dz, R.out, fun i a m => ?_, fun a z => some_of a (R.tk a z), R.bz, fun a z => some_of a (R.bt a z)⟩
  · have h := R.sl i x e
    cases x with
    | no => exact h
    | bo k d => obtain ⟨h1, v, G, h2, h3, h4⟩ := h; exact ⟨h1, v, G, h2, h3.poke hp nd (fun m => nb (h4 p m)), h4⟩
    | ow k d => obtain ⟨v, h2, h3⟩ := h; exact ⟨v, h2, h3.poke hp nd (nf i)⟩
  · have : a ≠ p := fun z => nf i (z ▸ m)
    rw [upd_ne this]
    exact R.mt i a m
end
theorem Tr.apart {M : List Nat} {Dz Dz' : Addr → Prop} {F F' : Nat → List Addr} {H H' : Hp} {p : Addr} {o : HO} (t : Tr M Dz F H Dz' F' H') (e : H p = some o) (nf : ∀ i, p ∉ F i) (nd : ¬ Dz p) : H' p = some o ∧ (∀ i, p ∉ F' i) ∧ ¬ Dz' p := by
  refine ⟨t.keep p o e fun i _ => nf i, fun i m => ?_, fun z => ?_⟩
  · by_cases hi : i ∈ M
    · rcases t.fn i p hi m with z | ⟨j, _, z⟩
      · rw [e] at z; cases z
      · exact nf j z
    · rw [t.fs i hi] at m
      exact nf i m
  · rcases t.new p z with z | z | ⟨j, _, z⟩
    · exact nd z
    · rw [e] at z; cases z
    · exact nf j z
theorem good_dct1 {ek ev : E} {pk pv : Expr} {pos : Pos} (hk : Good cf io X ek pk) (hv : Good cf io X ev pv) (i1 : ∀ i, ek ≠ .io i) (i2 : ∀ i, ev ≠ .io i) : Good cf io X (.dct [ek] [ev]) (.Dict [some pk] [pv] pos) := by
  refine .of (PE.imp (pe_disp (pps_cons hk.val hv.val pps_nil) rfl rfl (by simp) (by simp)) ?_) rfl
  rintro σ H Q ⟨B, Dz, F, s, R, r, s', q, c⟩
  intro p hp
  rw [evE] at q
  obtain ⟨as, t1, q1, q⟩ := Ev.bind_ok q
  obtain ⟨bs, t2, q2, q⟩ := Ev.bind_ok q
  obtain ⟨rk, t3, as1, qa, _, q3, rfl⟩ := evAs_cons i1 q1
  rw [evAs] at q3
  cases q3
  obtain ⟨rv, t4, bs1, qb, _, q4, rfl⟩ := evAs_cons i2 q2
  rw [evAs] at q4
  cases q4
  have sm := same_new (o := .dK []) hp
  have pf : ∀ i, p ∉ F i := fun i m => tracked (R.mt i p m) hp
  have pd : ¬ Dz p := fun z => R.tk p z hp
  have pb : ¬ B p := fun z => R.bt p z hp
  have tk2 : ∀ a, Dz a → upd H p (.dK []) a ≠ none := fun a z => by
    by_cases e : a = p
    · rw [e, upd_same]; exact fun z => nomatch z
    · rw [upd_ne e]; exact R.tk a z
  have R0 := R.grow sm (fun _ z => z) (fun _ z => .inl z) tk2
  have u0 : Tr [] Dz F H Dz F (upd H p (.dK [])) := Tr.grow sm (fun _ z => z) (fun _ z => .inl z)
  refine tE.next cf io R0 qa fun Dz1 F1 H1 v1 G1 u1 R1 o1 g1 => ?_
  refine tE.next cf io R1 qb fun Dz2 F2 H2 v2 G2 u2 R2 o2 g2 => ?_
  obtain ⟨a1, a2, a3⟩ := u1.apart (upd_same (H := H) (a := p) (o := .dK [])) pf pd
  obtain ⟨b1, b2, b3⟩ := u2.apart a1 a2 a3
  split at q
  · rename_i xs ys ex ey
    split at q
    · rename_i kvs ek'
      cases q
      simp only [AV.rvs, Option.map_some, Option.bind_some] at ex ey
      have fx : ∃ d, rk.fit 0 = some d ∧ xs = [d] := by
        unfold Ti.fits at ex
        split at ex
        · rename_i d ds' f1 f2
          unfold Ti.fits at f2
          cases f2
          cases ex
          exact ⟨d, f1, rfl⟩
        · cases ex
      have fy : ∃ d, rv.fit 0 = some d ∧ ys = [d] := by
        unfold Ti.fits at ey
        split at ey
        · rename_i d ds' f1 f2
          unfold Ti.fits at f2
          cases f2
          cases ey
          exact ⟨d, f1, rfl⟩
        · cases ey
      obtain ⟨d1, f1, rfl⟩ := fx
      obtain ⟨d2, f2, rfl⟩ := fy
      unfold mkDct at ek'
      split at ek'
      · rename_i hk1
        unfold mkDct at ek'
        cases ek'
        obtain ⟨A1, N1, p1, _⟩ := o1.fit f1
        obtain ⟨A2, N, p2, _, sub2, _⟩ := o2.fit f2
        obtain rfl := p2.nil0
        obtain ⟨ev1, fit1⟩ := rp_key hk1 p1
        have og : ∀ a ∈ G2, (∀ j, a ∉ F2 j) ∧ H2 a ≠ none ∧ ¬ B a := fun a m => by
          cases rv with
          | bo src k d => cases f2
          | ow k d =>
            obtain ⟨h1, h2, h3⟩ := o2
            exact ⟨(h3 a m).2.2, tracked (h1.mut a m), (h3 a m).2.1⟩
        have nN : p ∉ N := fun m => by
          rcases g2 p (sub2.subset m) with z | ⟨i, _, z⟩
          · rw [a1] at z; cases z
          · exact a2 i z
        have R3 := R2.give (N := N) fun a m => ⟨(og a (sub2.subset m)).1, (og a (sub2.subset m)).2.1⟩
        have mp : Mut (H2 p) := by rw [b1]; exact True.intro
        have nd3 : ¬ Or Dz2 N p := fun z => z.elim b3 nN
        have R4 := R3.poke2 (p := p) (o := .dK [(dKey d1, v2)]) mp True.intro nd3 b2 pb
        refine ⟨b1, [(dKey d1, v2)], by rw [ev1]; rfl, by simp, ?_⟩
        have T3 : Tr (E.muts (.dct [ek] [ev])) Dz F H (Or Dz2 N) F2 H2 := by
          have T := ((u0.trans u1).trans u2)
          refine Tr.give (fun a m => ?_) (T.mono fun i hi => by simpa [E.muts, E.mutss] using hi)
          rcases g2 a (sub2.subset m) with z | ⟨i, hi, z⟩
          · rcases (u0.trans u1).none_of z with z | ⟨i, hi, z⟩
            · exact .inl z
            · exact .inr ⟨i, by simp [E.muts, E.mutss] at hi ⊢; exact .inl hi, z⟩
          · rcases (u0.trans u1).back z with z | z | ⟨j, hj, z⟩
            · exact .inr ⟨i, by simp [E.muts, E.mutss]; exact .inr hi, z⟩
            · exact .inl z
            · exact .inr ⟨j, by simp [E.muts, E.mutss] at hj ⊢; exact .inl hj, z⟩
        have T4 : Tr (E.muts (.dct [ek] [ev])) Dz F H (Or Dz2 N) F2 (upd H2 p (.dK [(dKey d1, v2)])) := by
          have ne : ∀ a o, H a = some o → a ≠ p := fun a o e z => by rw [z, hp] at e; cases e
          exact ⟨T3.dz, T3.new, fun a o e k => by rw [upd_ne (ne a o e)]; exact T3.keep a o e k, fun a o e k => by rw [upd_ne (ne a o e)]; exact T3.nm a o e k, T3.fs, T3.fn⟩
        have kl : KeyL [(d1, d2)] [(dKey d1, v2)] := by
          obtain ⟨y, hy⟩ := keyOf_some hk1
          refine ⟨?_, fun x m => by rw [List.mem_singleton.mp m]; exact fit1⟩
          show [keyOf d1] = [some (dKey d1)]
          unfold dKey
          rw [hy]; rfl
        have rp : Rp X.K (upd H2 p (.dK [(dKey d1, v2)])) (Or Dz2 N) 1 (.dct [(d1, d2)]) (.ref p) [p] :=
          .do_ (F := []) upd_same kl (Rps.cons (F := []) (G := []) (p2.poke mp nd3 fun m => by cases m) .nil)
        have mk : mergeK [] [(dKey d1, v2)] = [(dKey d1, v2)] := by simp [mergeK, putK]
        rw [mk]
        have c' := c (Or Dz2 N) F2 _ (.ref p) [p] T4 R4
        have dd : ([(d1, d2)] : List (D × D)).foldl (fun acc p => putD acc p.1 p.2) [] = [(d1, d2)] := by simp [putD]
        rw [dd] at c'
        exact c' ⟨rp, by simp, fun a m => by rw [List.mem_singleton.mp m]; exact ⟨nd3, pb, b2⟩⟩ fun a m => by rw [List.mem_singleton.mp m]; exact .inl hp
      · cases ek'
    · cases q
  · cases q
end
end Ti
end

section
/-! whether a written text is the small language's -/
namespace Ti
open PySem PySem.Spec PyProof.Rows L2

mutual
def D.same : D → D → Bool
  | .non, .non => true
  | .bl a, .bl b => a == b
  | .int a, .int b => a == b
  | .str a, .str b => a == b
  | .tup a, .tup b => D.sames a b
  | _, _ => false
def D.sames : List D → List D → Bool
  | [], [] => true
  | x :: xs, y :: ys => D.same x y && D.sames xs ys
  | _, _ => false
end
mutual
theorem D.same_eq : ∀ {a b : D}, D.same a b = true → a = b
  | .non, b, h => by cases b <;> first | rfl | (simp [D.same] at h; done)
  | .bl x, b, h => by cases b <;> simp [D.same] at h; rw [h]
  | .int x, b, h => by cases b <;> simp [D.same] at h; rw [h]
  | .str x, b, h => by cases b <;> simp [D.same] at h; rw [h]
  | .tup x, b, h => by cases b <;> simp [D.same] at h; rw [D.sames_eq h]
  | .lst _, b, h | .dct _, b, h | .scr _, b, h | .ins _ _, b, h => by cases b <;> simp [D.same] at h
theorem D.sames_eq : ∀ {a b : List D}, D.sames a b = true → a = b
  | [], [], _ => rfl
  | [], _ :: _, h | _ :: _, [], h => by simp [D.sames] at h
  | x :: xs, y :: ys, h => by
    simp only [D.sames, Bool.and_eq_true] at h
    rw [D.same_eq h.1, D.sames_eq h.2]
end
structure Tab where
  N : List Str
  ct : List (Nat × Str × Nat)
  gt : List (Str × D)
  fl : List (String × String) := []
  mt : List (String × String × Nat × Nat) := []
  cs : List (String × Nat × Nat) := []
def bltNames : List Str := ["len", "all", "sum", "sorted", "list", "tuple", "dict", "min", "max", "isinstance", "range", "int", "str", "bool", "set", "enumerate"]
def glB (sc : Scope) (x : Str) : Bool := decide (sc.names.lookup x = some .globalImplicit)
def visB (sc : Scope) (x : Str) : Bool := decide (sc.names.lookup x = some .local) || decide (sc.names.lookup x = some .cell) || decide (sc.names.lookup x = some .free)
def locB (sc : Scope) (oc : Str → Bool) (x : Str) : Bool := decide (sc.names.lookup x = some .local) || (decide (sc.names.lookup x = some .cell) && oc x)
def dbgB (x : Str) : Bool := !(x == ("__debug__" : Str)) && !(x == ("__classdict__" : Str))
def nmB (T : Tab) (sc : Scope) (i : Nat) (x : Str) : Bool := decide (T.N[i]? = some x) && visB sc x && dbgB x
def conB : D → Const → Bool
  | .non, .none => true
  | .bl a, .bool b => a == b
  | .int a, .int b => a == b
  | .str a, .str b => decide (b = Str.ofString a) && decide (a.length ≤ big)
  | _, _ => false
def tailOf (op : BoolOp) (l : List Expr) (pos : Pos) : Expr := match l with
  | [e] => e
  | l => .BoolOp op l pos
def isComp : Expr → Bool
  | .ListComp .. | .SetComp .. | .DictComp .. => true
  | _ => false
def isTupX : Expr → Bool
  | .Tuple .. => true
  | _ => false
def isSetX : Expr → Bool
  | .Set .. => true
  | _ => false
def ownOf (T : Tab) (t : Tg) : List (Str × Nat) := t.slots.map fun i => (T.N[i]?.getD Str.empty, i)
def blkC (N : List Str) (sc scope : Scope) (own : List (Str × Nat)) : Bool :=
  decide (scope.kind = .function) && scope.names.all (fun y => decide (scope.names.lookup y.1 = some y.2)) && own.all (fun p => decide (N[p.2]? = some p.1)) &&
  scope.names.all (fun y => !decide (y.2 = .free) || decide (sc.names.lookup y.1 = some .cell) || decide (sc.names.lookup y.1 = some .free)) &&
  scope.names.all (fun y => !(decide (y.2 = .local) || decide (y.2 = .cell)) || (own.map (·.1)).contains y.1 || !N.contains y.1)
mutual
def agT (T : Tab) (sc : Scope) (oc : Str → Bool) : Tg → Expr → Bool
  | .nm i, pe => match pe with
    | .Name x _ => decide (T.N[i]? = some x) && locB sc oc x
    | _ => false
  | .tp ts, pe => match pe with
    | .Tuple pts _ _ => agTs T sc oc ts pts
    | _ => false
def agTs (T : Tab) (sc : Scope) (oc : Str → Bool) : List Tg → List Expr → Bool
  | [], pts => pts.isEmpty
  | t :: ts, pts => match pts with
    | [] => false
    | p :: ps => agT T sc oc t p && agTs T sc oc ts ps
end
/-- a written dict's values, its keys -/
def dvB : Option D → Expr → Bool
  | some .non, pe => match pe with
    | .Constant .none _ _ => true
    | _ => false
  | some (.int i), pe => match pe with
    | .Constant (.int j) _ _ => i == j
    | _ => false
  | some (.bl b), pe => match pe with
    | .Constant (.bool c) _ _ => b == c
    | _ => false
  | none, pe => match pe with
    | .List [] _ => true
    | _ => false
  | _, _ => false
def dcB : List (String × Option D) → List (Option Expr) → List Expr → Bool
  | [], ks, vs => ks.isEmpty && vs.isEmpty
  | (z, o) :: kvs, ks, vs => match ks, vs with
    | some (.Constant (.str y) _ _) :: ks, v :: vs => decide (y = Str.ofString z) && dvB o v && dcB kvs ks vs
    | _, _ => false
def isRng : E → Bool
  | .rng _ => true
  | _ => false
def ioB (T : Tab) (sc : Scope) (i : Nat) : Expr → Bool
  | .Name x _ => nmB T sc i x
  | _ => false
mutual
def agE (T : Tab) (sc : Scope) : E → Expr → Bool
  | .con d, pe => match pe with
    | .Constant c _ _ => conB d c
    | _ => false
  | .gl y d, pe => match pe with
    | .Name x _ => glB sc x && !(x == ("__debug__" : Str)) && (T.gt.any fun p => decide (p.1 = x) && D.same p.2 d)
    | _ => false
  | .var i, pe => match pe with
    | .Name x _ => nmB T sc i x
    | _ => false
  | .mv i, pe => match pe with
    | .Name x _ => nmB T sc i x
    | _ => false
  | .gv i, pe => match pe with
    | .Name x _ => nmB T sc i x
    | _ => false
  | .io _, _ => false
  | .bin o a b, pe => match pe with
    | .BinOp l op r _ => decide (op = o.py) && agE T sc a l && agE T sc b r
    | _ => false
  | .neg a, pe => match pe with
    | .UnaryOp .USub x _ => agE T sc a x
    | _ => false
  | .cmp o a b, pe => match pe with
    | .Compare l [op] [r] _ => decide (op = o.py) && !behindInMarks o.py r && agE T sc a l && agE T sc b r
    | _ => false
  | .chn o1 o2 a b c, pe => match pe with
    | .Compare l [p1, p2] [r1, r2] _ => decide (p1 = o1.py) && decide (p2 = o2.py) && !lastMarks [o1.py, o2.py] [r1, r2] && agE T sc a l && agE T sc b r1 && agE T sc c r2
    | _ => false
  | .and a b, pe => match pe with
    | .BoolOp .And (x :: y :: rest) pos => agE T sc a x && agE T sc b (tailOf .And (y :: rest) pos)
    | _ => false
  | .or a b, pe => match pe with
    | .BoolOp .Or (x :: y :: rest) pos => agE T sc a x && agE T sc b (tailOf .Or (y :: rest) pos)
    | _ => false
  | .not a, pe => match pe with
    | .UnaryOp .Not x _ => agE T sc a x
    | _ => false
  | .ite c a b, pe => match pe with
    | .IfExp pc pa pb _ => agE T sc c pc && agE T sc a pa && agE T sc b pb
    | _ => false
  | .tup _ es, pe => match pe with
    | .Tuple pes _ _ => decide (es.length ≤ 1000) && agEs T sc es pes
    | _ => false
  | .lst _ es, pe => match pe with
    | .List pes _ => decide (es.length ≤ 1000) && agEs T sc es pes
    | _ => false
  | .dct ks vs, pe => match pe with
    | .Dict [] [] _ => ks.isEmpty && vs.isEmpty
    | .Dict [some pk] [pv] _ => ks.length == 1 && vs.length == 1 && ks.all (fun e => (isIo e).isNone) && vs.all (fun e => (isIo e).isNone) && agEs T sc ks [pk] && agEs T sc vs [pv]
    | _ => false
  | .idx a b, pe => match pe with
    | .Subscript x y _ => plainIxB y && agE T sc a x && agE T sc b y
    | _ => false
  | .slc a lo hi, pe => match pe with
    | .Subscript x (.Slice l h none _) _ => agE T sc a x && agO T sc lo l && agO T sc hi h
    | _ => false
  | .rev a, pe => match pe with
    | .Subscript x (.Slice none none (some (.UnaryOp .USub (.Constant (.int 1) _ _) _)) _) _ => agE T sc a x
    | _ => false
  | .fld c a f, pe => match pe with
    | .Attribute x y _ => T.fl.contains (c, f) && decide (y = Str.ofString f) && plainBase x && agE T sc a x
    | _ => false
  | .fk _ _, _ => false
  | .meth c m g es, pe => match pe with
    | .Call (.Attribute o nm apos) pes [] cpos => T.mt.contains (c, m, g, es.length) && decide (nm = Str.ofString m) && plainBase o && (apos.endLine == cpos.line) && decide (pes.length < 30) && agEs T sc es (o :: pes)
    | _ => false
  | .mk _ c g es, pe => match pe with
    | .Call (.Name x _) pes [] _ => T.cs.contains (c, g, es.length + 1) && decide (x = Str.ofString c) && glB sc x && !(x == ("__debug__" : Str)) && agEs T sc es pes
    | _ => false
  | .call g es, pe => match pe with
    | .Call (.Name x _) pes [] _ => T.ct.contains (g, x, es.length) && glB sc x && !(x == ("__debug__" : Str)) && agEs T sc es pes
    | _ => false
  | .bi b es, pe => match pe with
    | .Call (.Name x _) [.Call (.Name y p2) [pa] [] p3] [] _ => if b = .sortset then decide (x = ("sorted" : Str)) && decide (y = ("set" : Str)) && glB sc x && glB sc y && es.length == 1 && es.all (fun e => (isIo e).isNone) && agEs T sc es [pa]
      else b.okB && decide (x = Str.ofString b.nm) && bltNames.contains x && glB sc x && agEs T sc es [.Call (.Name y p2) [pa] [] p3]
    | .Call (.Name x _) (p :: ps) [] _ => b.okB && decide (x = Str.ofString b.nm) && bltNames.contains x && glB sc x && agEs T sc es (p :: ps)
    | _ => false
  | .isi a ts, pe => match pe, ts with
    | .Call (.Name x _) [pa, .Name y _] [] _, [t] => decide (x = ("isinstance" : Str)) && t.okT && decide (y = Str.ofString t.nm) && bltNames.contains y && glB sc x && glB sc y && agE T sc a pa
    | .Call (.Name x _) [pa, .Tuple [.Name y _, .Name z _] _ _] [] _, [t1, t2] => decide (x = ("isinstance" : Str)) && t1.okT && t2.okT && decide (y = Str.ofString t1.nm) && decide (z = Str.ofString t2.nm) && bltNames.contains y && bltNames.contains z && glB sc x && glB sc y && glB sc z && agE T sc a pa
    | _, _ => false
  | .bm m o es, pe => match pe with
    | .Call (.Attribute po nm apos) pes [] cpos => plainBase po && (apos.endLine == cpos.line) && agE T sc o po && agEs T sc es pes && (match m, es with
      | .get, [_, _] => decide (nm = ("get" : Str)) && es.all (fun e => match e with | .io _ => false | _ => true)
      | .upper, [] => decide (nm = ("upper" : Str))
      | .join, [_] => decide (nm = ("join" : Str)) && es.all (fun e => match e with | .io _ => false | _ => true)
      | .index, [_] => decide (nm = ("index" : Str)) && es.all (fun e => match e with | .io _ => false | _ => true)
      | _, _ => false)
    | _ => false
  | .lc _ e t it c, pe => match pe with
    | .ListComp pe [⟨tg, iter, ifs, a⟩] scope _ => (a == 0) && !isSetX iter && blkC T.N sc scope (ownOf T t) && agT T (relS scope sc) (fun x => scope.names.lookup x == some .cell) t tg && agC T (relS scope sc) c ifs && agE T (relS scope sc) e pe &&
        (if isRng it then agR T sc it iter else agE T sc it iter)
    | _ => false
  | .srt a, pe => match pe with
    | .Call (.Name x _) [pa] [] _ => decide (x = ("sorted" : Str)) && glB sc x && (isIo a).isNone && agE T sc a pa
    | _ => false
  | .gix x zs a, pe => match pe with
    | .Call (.Attribute (.Name y _) nm apos) [pa] [] cpos => decide (nm = ("index" : Str)) && (apos.endLine == cpos.line) && glB sc y && !(y == ("__debug__" : Str)) && (T.gt.any fun p => decide (p.1 = y) && D.same p.2 (.tup (zs.map .str))) && (isIo a).isNone && agE T sc a pa
    | _ => false
  | .dcs _ kvs, pe => match pe with
    | .Dict ks vs _ => decide (kvs.length ≤ 15) && !kvs.isEmpty && dcB kvs ks vs
    | _ => false
  | .rng _, _ => false
  | .zip _ _, _ => false
  | .enm _, _ => false
  | .fst _, _ => false
termination_by structural e => e
def agR (T : Tab) (sc : Scope) : E → Expr → Bool
  | .rng es, iter => match iter with
    | .Call (.Name x _) pes [] _ => decide (x = ("range" : Str)) && glB sc x && (pes.length == 1 || pes.length == 2) && agEs T sc es pes
    | _ => false
  | _, _ => false
termination_by structural e => e
def agEs (T : Tab) (sc : Scope) : List E → List Expr → Bool
  | [], pes => pes.isEmpty
  | e :: es, pes => match pes with
    | [] => false
    | p :: ps => (match isIo e with
      | some i => ioB T sc i p
      | none => agE T sc e p) && agEs T sc es ps
termination_by structural e => e
def agO (T : Tab) (sc : Scope) : Option E → Option Expr → Bool
  | none, p => p.isNone
  | some e, p => match p with
    | some p => agE T sc e p
    | none => false
termination_by structural e => e
def agC (T : Tab) (sc : Scope) : Option E → List Expr → Bool
  | none, p => p.isEmpty
  | some e, p => match p with
    | [p] => agE T sc e p
    | _ => false
termination_by structural e => e
end
end Ti
end

section
namespace Ti
open PySem PySem.Spec PyProof.Rows L2
variable [PWc]

structure Cty (cf : Nat → List Arg → Rs) (X : Cx) (T : Tab) (sc : Scope) : Prop where
  N : X.N = T.N
  scq : X.env.scope = sc
  nd : T.N.Nodup
  calm : X.calm = true
  un : X.A.units + 100 < cLine
  pw : PWc.w = some X.w
  call : ∀ g x n, (g, x, n) ∈ T.ct → Can cf X g x n
  glob : ∀ x d, (x, d) ∈ T.gt → ∃ v u, X.mg x = some u ∧ RelV v u ∧ ∀ H Dz, Rp X.K H Dz 0 d v []
  blt : ∀ x ∈ bltNames, X.mg x = none
  fl : ∀ c f, (c, f) ∈ T.fl → ∀ C, ClsAt X.K c C → Cls X.K C ∧ NoAttr X.K C (Str.ofString f)
  mt : ∀ c m g n, (c, m, g, n) ∈ T.mt → CanM cf X c m g n
  cs : ∀ c g n, (c, g, n) ∈ T.cs → CanC cf X c g n
variable {cf : Nat → List Arg → Rs} {io : List Nat} {X : Cx} {T : Tab} {sc : Scope}
theorem Cty.blk (c : Cty cf X T sc) (s : Shared) (H : Hp) (scope : Scope) (cl : List (Str × Addr)) (C : Addr) (fp : List Addr) : Cty cf (X.blk s H scope (compEnvC scope cl C X.env) fp) T (relS scope sc) := by
  refine ⟨c.N, ?_, c.nd, c.calm, c.un, c.pw, fun g x n h => ⟨(c.call g x n h).ex⟩, c.glob, c.blt, c.fl, fun c' m g n h => ⟨let ⟨C', f, h1, h2, h3, h4⟩ := (c.mt c' m g n h).ex; ⟨C', f, h1, h2, h3, ⟨h4.ex⟩⟩⟩, fun c' g n h => ⟨let ⟨C', f, h1, h2, h3, h4⟩ := (c.cs c' g n h).ex; ⟨C', f, h1, h2, h3, ⟨h4.ex⟩⟩⟩⟩
  show relabel scope X.env = relS scope sc
  rw [← c.scq]; rfl
theorem glB_ok (c : Cty cf X T sc) {x : Str} (h : glB sc x = true) : Gl X x := by
  unfold glB at h
  rw [decide_eq_true_eq] at h
  show X.env.scope.names.lookup x = some .globalImplicit
  rw [c.scq]; exact h
theorem visB_ok (c : Cty cf X T sc) {x : Str} (h : visB sc x = true) : Vis X.env.scope x := by
  unfold visB at h
  simp only [Bool.or_eq_true, decide_eq_true_eq] at h
  rw [c.scq]
  rcases h with (h | h) | h
  · exact .inl h
  · exact .inr (.inl h)
  · exact .inr (.inr h)
theorem locB_ok (c : Cty cf X T sc) {oc : Str → Bool} (hf : ∀ x, oc x = true → X.fn x = true) {x : Str} (h : locB sc oc x = true) : L2.Loc X.env.scope x ∧ (X.fn x = true ∨ X.env.scope.names.lookup x = some .local) := by
  unfold locB at h
  simp only [Bool.or_eq_true, Bool.and_eq_true, decide_eq_true_eq] at h
  rw [c.scq]
  rcases h with h | h
  · exact ⟨.inl h, .inr h⟩
  · exact ⟨.inr h.1, .inl (hf x h.2)⟩
theorem nmB_ok (c : Cty cf X T sc) {i : Nat} {x : Str} (h : nmB T sc i x = true) : X.N[i]? = some x ∧ Vis X.env.scope x ∧ (x == ("__debug__" : Str)) = false ∧ (x == ("__classdict__" : Str)) = false := by
  unfold nmB dbgB at h
  simp only [Bool.and_eq_true, decide_eq_true_eq, Bool.not_eq_true'] at h
  exact ⟨by rw [c.N]; exact h.1.1, visB_ok c h.1.2, h.2.1, h.2.2⟩
theorem bltx (c : Cty cf X T sc) {x : Str} (h : bltNames.contains x = true) : X.mg x = none := c.blt x (List.contains_iff_mem.mp h)
mutual
theorem agT_ok (c : Cty cf X T sc) {oc : Str → Bool} (hf : ∀ x, oc x = true → X.fn x = true) : ∀ {t : Tg} {pe : Expr}, agT T sc oc t pe = true → PG X pe (gT X.K t) ∧ notStar pe = true
  | .nm i, pe, h => by
    simp only [agT] at h
    split at h
    · rename_i x p
      simp only [Bool.and_eq_true, decide_eq_true_eq] at h
      have l := locB_ok c hf h.2
      exact ⟨good_nm (by rw [c.N]; exact c.nd) (by rw [c.N]; exact h.1) l.1 l.2, rfl⟩
    · cases h
  | .tp ts, pe, h => by
    simp only [agT] at h
    split at h
    · exact ⟨good_tp c.calm (agTs_ok c hf h), rfl⟩
    · cases h
theorem agTs_ok (c : Cty cf X T sc) {oc : Str → Bool} (hf : ∀ x, oc x = true → X.fn x = true) : ∀ {ts : List Tg} {pes : List Expr}, agTs T sc oc ts pes = true → GoodTs X ts pes
  | [], pes, h => by
    simp only [agTs] at h
    cases pes with
    | nil => exact good_tgs_nil
    | cons _ _ => cases h
  | t :: ts, pes, h => by
    simp only [agTs] at h
    split at h
    · cases h
    · simp only [Bool.and_eq_true] at h
      have q := agT_ok c hf h.1
      exact good_tgs_cons q.1 q.2 (agTs_ok c hf h.2)
end
theorem con_ok {d : D} {k : Const} {j : Nat} {p : Pos} (h : conB d k = true) : Good cf io X (.con d) (.Constant k j p) := by
  cases d <;> cases k <;> simp only [conB] at h <;> try cases h
  · exact good_con pe_non rfl fun _ _ => .non
  · rw [beq_iff_eq] at h; subst h; exact good_con pe_bl rfl fun _ _ => .bl _
  · rw [beq_iff_eq] at h; subst h; exact good_con pe_int rfl fun _ _ => .int _
  · simp only [Bool.and_eq_true, decide_eq_true_eq] at h
    obtain ⟨rfl, h2⟩ := h
    exact good_con pe_str rfl fun _ _ => .str _ h2
theorem foldSet {e : Expr} (h : isSetX e = false) (env : Env) (x : Value) : foldedSetIterable e env x = pure x := by
  cases e <;> first | rfl | (cases h; done)
theorem blk_ok {N : List Str} {own : List (Str × Nat)} {sc scope : Scope} (h : blkC N sc scope own = true) : BlkOk N sc scope own := by
  unfold blkC at h
  simp only [Bool.and_eq_true, decide_eq_true_eq, List.all_eq_true, Bool.or_eq_true, Bool.not_eq_true', decide_eq_false_iff_not] at h
  obtain ⟨⟨⟨⟨h1, h2⟩, h3⟩, h4⟩, h5⟩ := h
  refine ⟨h1, h2, h3, fun y hy e => ?_, fun y hy e => ?_⟩
  · rcases h4 y hy with (z | z) | z
    · exact absurd e z
    · exact .inl z
    · exact .inr z
  · rcases h5 y hy with (z | z) | z
    · simp only [Bool.or_eq_false_iff, decide_eq_false_iff_not] at z
      exact (e.elim z.1 z.2).elim
    · exact .inl (List.contains_iff_mem.mp z)
    · exact .inr fun m => by rw [List.contains_iff_mem.mpr m] at z; cases z
theorem own_map (t : Tg) : (ownOf T t).map (·.2) = t.slots := by
  unfold ownOf
  rw [List.map_map]
  show List.map id t.slots = t.slots
  exact List.map_id _
/-- all that a comprehension's rules want -/
structure LcParts (cf : Nat → List Arg → Rs) (io : List Nat) (X : Cx) (e it : E) (t : Tg) (c : Option E) (elt tg iter : Expr) (ifs : List Expr) (scope : Scope) : Prop where
  it : PI X tg iter (tI cf io X.K it (E.muts e ++ E.mutso c))
  ok : ∃ own : List (Str × Nat), BlkOk X.N X.env.scope scope own ∧ own.map (·.2) = t.slots
  tg : ∀ (s : Shared) (H : Hp) (C : Addr) (cl : List (Str × Addr)) (fp : List Addr), PG (X.blk s H scope (compEnvC scope cl C X.env) fp) tg (gT X.K t)
  ifs : ∀ (s : Shared) (H : Hp) (C : Addr) (cl : List (Str × Addr)) (fp : List Addr), PTs (X.blk s H scope (compEnvC scope cl C X.env) fp) ifs (tCo cf io X.K c)
  el : ∀ (s : Shared) (H : Hp) (C : Addr) (cl : List (Str × Addr)) (fp : List Addr), PE (X.blk s H scope (compEnvC scope cl C X.env) fp) elt (tE cf io X.K e)
  st : isSetX iter = false
theorem good_lc {k : Nat} {e it : E} {t : Tg} {c : Option E} {elt tg iter : Expr} {ifs : List Expr} {scope : Scope} {pos : Pos} (hc : X.calm = true) (hN : X.N.Nodup) (h : LcParts cf io X e it t c elt tg iter ifs scope) :
    Good cf io X (.lc k e t it c) (.ListComp elt [⟨tg, iter, ifs, 0⟩] scope pos) := by
  obtain ⟨own, ok, ho⟩ := h.ok
  have p := pe_lc (pos := pos) hc hN h.it ok h.tg h.ifs h.el (foldSet h.st _)
  rw [ho] at p
  exact .of (PE.imp p lc_key) rfl

/-- what agreement gives -/
structure Ag (cf : Nat → List Arg → Rs) (io : List Nat) (X : Cx) (e : E) (pe : Expr) : Prop where
  good : Good cf io X e pe
  bl : ∀ op l pos, pe = .BoolOp op l pos → GoodB cf io X op e l pos
  star : notStar pe = true
  ni : ∀ i, e ≠ .io i
theorem Ag.of {e : E} {pe : Expr} (h : Good cf io X e pe) (hb : ∀ op l pos, pe ≠ .BoolOp op l pos) (hs : notStar pe = true) (hn : ∀ i, e ≠ .io i) : Ag cf io X e pe := ⟨h, fun op l pos e => absurd e (hb op l pos), hs, hn⟩
theorem tail_ok {op : BoolOp} {e : E} {y : Expr} {rest : List Expr} {pos : Pos} (h : Ag cf io X e (tailOf op (y :: rest) pos)) : GoodB cf io X op e (y :: rest) pos := by
  cases rest with
  | nil => exact goodB_one h.good
  | cons z r => exact h.bl op _ pos rfl
theorem gt_ok (c : Cty cf X T sc) {x : Str} {d : D} (h : (T.gt.any fun p => decide (p.1 = x) && D.same p.2 d) = true) : ∃ v u, X.mg x = some u ∧ RelV v u ∧ ∀ H Dz, Rp X.K H Dz 0 d v [] := by
  rw [List.any_eq_true] at h
  obtain ⟨⟨y, d'⟩, hm, h⟩ := h
  simp only [Bool.and_eq_true, decide_eq_true_eq] at h
  obtain ⟨rfl, h2⟩ := h
  obtain rfl := D.same_eq h2
  exact c.glob _ _ hm
theorem dv_ok {o : Option D} {pe : Expr} (h : dvB o pe = true) : PE X pe (tDv o) := by
  unfold dvB at h
  split at h
  · split at h
    · exact pe_non
    · cases h
  · split at h
    · rw [beq_iff_eq] at h; subst h; exact pe_int
    · cases h
  · split at h
    · rw [beq_iff_eq] at h; subst h; exact pe_bl
    · cases h
  · split at h
    · exact pe_new0
    · cases h
  · cases h
theorem dc_ok : ∀ {kvs : List (String × Option D)} {ks : List (Option Expr)} {vs : List Expr}, dcB kvs ks vs = true → Dcs X kvs ks vs
  | [], ks, vs, h => by
    simp only [dcB, Bool.and_eq_true, List.isEmpty_iff] at h
    obtain ⟨rfl, rfl⟩ := h
    exact .nil
  | (z, o) :: kvs, ks, vs, h => by
    simp only [dcB] at h
    split at h
    · simp only [Bool.and_eq_true, decide_eq_true_eq] at h
      obtain ⟨⟨rfl, h1⟩, h2⟩ := h
      exact .cons pe_str (dv_ok h1) (dc_ok h2)
    · cases h
mutual
theorem agE_ok : ∀ {e : E} {pe : Expr} {sc : Scope} {X : Cx}, Cty cf X T sc → agE T sc e pe = true → Ag cf io X e pe
  | .con d, pe, sc, X, c, h => by
    simp only [agE] at h
    split at h
    · exact .of (con_ok h) (fun _ _ _ e => nomatch e) rfl fun _ e => nomatch e
    · cases h
  | .gl y d, pe, sc, X, c, h => by
    simp only [agE] at h
    split at h
    · simp only [Bool.and_eq_true, Bool.not_eq_true'] at h
      obtain ⟨v, u, h1, h2, h3⟩ := gt_ok c h.2
      exact .of (good_gl (pe_glob (glB_ok c h.1.1) h1 h2 h.1.2) rfl h3) (fun _ _ _ e => nomatch e) rfl fun _ e => nomatch e
    · cases h
  | .var i, pe, sc, X, c, h => by
    simp only [agE] at h
    split at h
    · obtain ⟨h1, h2, h3, h4⟩ := nmB_ok c h
      exact .of (good_var h1 h2 h3 h4) (fun _ _ _ e => nomatch e) rfl fun _ e => nomatch e
    · cases h
  | .mv i, pe, sc, X, c, h => by
    simp only [agE] at h
    split at h
    · obtain ⟨h1, h2, h3, h4⟩ := nmB_ok c h
      exact .of (good_mv h1 h2 h3 h4) (fun _ _ _ e => nomatch e) rfl fun _ e => nomatch e
    · cases h
  | .gv i, pe, sc, X, c, h => by
    simp only [agE] at h
    split at h
    · obtain ⟨h1, h2, h3, h4⟩ := nmB_ok c h
      exact .of (good_gv h1 h2 h3 h4) (fun _ _ _ e => nomatch e) rfl fun _ e => nomatch e
    · cases h
  | .io i, pe, sc, X, c, h => by simp only [agE] at h; cases h
  | .bin o a b, pe, sc, X, c, h => by
    simp only [agE] at h
    split at h
    · simp only [Bool.and_eq_true, decide_eq_true_eq] at h
      obtain ⟨⟨rfl, h1⟩, h2⟩ := h
      exact .of (good_bin (agE_ok c h1).good (agE_ok c h2).good) (fun _ _ _ e => nomatch e) rfl fun _ e => nomatch e
    · cases h
  | .neg a, pe, sc, X, c, h => by
    simp only [agE] at h
    split at h
    · exact .of (good_neg (agE_ok c h).good) (fun _ _ _ e => nomatch e) rfl fun _ e => nomatch e
    · cases h
  | .cmp o a b, pe, sc, X, c, h => by
    simp only [agE] at h
    split at h
    · simp only [Bool.and_eq_true, decide_eq_true_eq, Bool.not_eq_true'] at h
      obtain ⟨⟨⟨rfl, h0⟩, h1⟩, h2⟩ := h
      exact .of (good_cmp c.un (agE_ok c h1).good (agE_ok c h2).good h0) (fun _ _ _ e => nomatch e) rfl fun _ e => nomatch e
    · cases h
  | .chn o1 o2 a b d, pe, sc, X, c, h => by
    simp only [agE] at h
    split at h
    · simp only [Bool.and_eq_true, decide_eq_true_eq, Bool.not_eq_true'] at h
      obtain ⟨⟨⟨⟨⟨rfl, rfl⟩, h0⟩, h1⟩, h2⟩, h3⟩ := h
      exact .of (good_chn c.un (agE_ok c h1).good (agE_ok c h2).good (agE_ok c h3).good h0) (fun _ _ _ e => nomatch e) rfl fun _ e => nomatch e
    · cases h
  | .and a b, pe, sc, X, c, h => by
    simp only [agE] at h
    split at h
    · simp only [Bool.and_eq_true] at h
      have g := goodB_and (agE_ok c h.1).good (tail_ok (agE_ok c h.2))
      exact ⟨goodB_good g, fun op l pos e => by cases e; exact g, rfl, fun _ e => nomatch e⟩
    · cases h
  | .or a b, pe, sc, X, c, h => by
    simp only [agE] at h
    split at h
    · simp only [Bool.and_eq_true] at h
      have g := goodB_or (agE_ok c h.1).good (tail_ok (agE_ok c h.2))
      exact ⟨goodB_good g, fun op l pos e => by cases e; exact g, rfl, fun _ e => nomatch e⟩
    · cases h
  | .not a, pe, sc, X, c, h => by
    simp only [agE] at h
    split at h
    · exact .of (good_not (agE_ok c h).good) (fun _ _ _ e => nomatch e) rfl fun _ e => nomatch e
    · cases h
  | .ite d a b, pe, sc, X, c, h => by
    simp only [agE] at h
    split at h
    · simp only [Bool.and_eq_true] at h
      exact .of (good_ite (agE_ok c h.1.1).good (agE_ok c h.1.2).good (agE_ok c h.2).good) (fun _ _ _ e => nomatch e) rfl fun _ e => nomatch e
    · cases h
  | .tup k es, pe, sc, X, c, h => by
    simp only [agE] at h
    split at h
    · simp only [Bool.and_eq_true, decide_eq_true_eq] at h
      exact .of (good_tup h.1 (agEs_ok c h.2).1) (fun _ _ _ e => nomatch e) rfl fun _ e => nomatch e
    · cases h
  | .lst k es, pe, sc, X, c, h => by
    simp only [agE] at h
    split at h
    · simp only [Bool.and_eq_true, decide_eq_true_eq] at h
      exact .of (good_lst h.1 (agEs_ok c h.2).1) (fun _ _ _ e => nomatch e) rfl fun _ e => nomatch e
    · cases h
  | .dct ks vs, pe, sc, X, c, h => by
    simp only [agE] at h
    split at h
    · cases ks <;> cases vs <;> simp at h
      exact .of good_dct0 (fun _ _ _ e => nomatch e) rfl fun _ e => nomatch e
    · simp only [Bool.and_eq_true, beq_iff_eq] at h
      obtain ⟨⟨⟨⟨⟨h1, h2⟩, h3⟩, h4⟩, h5⟩, h6⟩ := h
      match ks, vs, h1, h2 with
      | [ek], [ev], _, _ =>
        have n1 : isIo ek = none := by simpa using h3
        have n2 : isIo ev = none := by simpa using h4
        have qk := (agEs_ok (es := [ek]) c h5).2.2 0 ek _ rfl rfl n1
        have qv := (agEs_ok (es := [ev]) c h6).2.2 0 ev _ rfl rfl n2
        exact .of (good_dct1 qk.good qv.good qk.ni qv.ni) (fun _ _ _ e => nomatch e) rfl fun _ e => nomatch e
    · cases h
  | .idx a b, pe, sc, X, c, h => by
    simp only [agE] at h
    split at h
    · simp only [Bool.and_eq_true] at h
      exact .of (good_idx c.un (agE_ok c h.1.2).good (agE_ok c h.2).good (plainIx_of h.1.1)) (fun _ _ _ e => nomatch e) rfl fun _ e => nomatch e
    · cases h
  | .slc a lo hi, pe, sc, X, c, h => by
    simp only [agE] at h
    split at h
    · simp only [Bool.and_eq_true] at h
      exact .of (good_slc (agE_ok c h.1.1).good (agO_ok c h.1.2) (agO_ok c h.2)) (fun _ _ _ e => nomatch e) rfl fun _ e => nomatch e
    · cases h
  | .rev a, pe, sc, X, c, h => by
    simp only [agE] at h
    split at h
    · exact .of (good_rev (agE_ok c h).good) (fun _ _ _ e => nomatch e) rfl fun _ e => nomatch e
    · cases h
  | .fld c' a f, pe, sc, X, c, h => by
    simp only [agE] at h
    split at h
    · simp only [Bool.and_eq_true, decide_eq_true_eq] at h
      obtain ⟨⟨⟨h1, rfl⟩, h3⟩, h4⟩ := h
      exact .of (good_fld (agE_ok c h4).good (c.fl _ _ (List.contains_iff_mem.mp h1)) h3) (fun _ _ _ e => nomatch e) rfl fun _ e => nomatch e
    · cases h
  | .fk _ _, pe, sc, X, c, h => by simp only [agE] at h; cases h
  | .meth c' m g es, pe, sc, X, c, h => by
    simp only [agE] at h
    split at h
    · rename_i o nm apos pes cpos
      simp only [Bool.and_eq_true, decide_eq_true_eq] at h
      obtain ⟨⟨⟨⟨⟨h1, rfl⟩, h3⟩, h4⟩, h5⟩, h6⟩ := h
      have can := c.mt _ _ _ _ (List.contains_iff_mem.mp h1)
      obtain ⟨gs, gl, ga⟩ := agEs_ok (es := es) (pes := o :: pes) c h6
      cases es with
      | nil => simp at gl
      | cons e0 es =>
        simp only [agEs, Bool.and_eq_true] at h6
        have gs' := (agEs_ok (es := es) (pes := pes) c h6.2).1
        cases hio : isIo e0 with
        | some i =>
          have ei : e0 = .io i := by cases e0 <;> simp only [isIo] at hio <;> cases hio; rfl
          subst ei
          rw [hio] at h6
          cases o <;> simp only [ioB] at h6 <;> try (exact absurd h6.1 Bool.false_ne_true)
          obtain ⟨q1, q2, q3, q4⟩ := nmB_ok c h6.1
          exact .of (good_methI can q1 q2 q3 q4 gs' (by simpa using gl) h5 h4) (fun _ _ _ e => nomatch e) rfl fun _ e => nomatch e
        | none =>
          have q := ga 0 e0 o rfl rfl hio
          exact .of (good_methR can q.ni q.good h3 gs' (by simpa using gl) h5 h4) (fun _ _ _ e => nomatch e) rfl fun _ e => nomatch e
    · cases h
  | .mk k c' g es, pe, sc, X, c, h => by
    simp only [agE] at h
    split at h
    · rename_i x p pes pos
      simp only [Bool.and_eq_true, Bool.not_eq_true', decide_eq_true_eq] at h
      obtain ⟨⟨⟨⟨h1, h2⟩, h3⟩, h4⟩, h5⟩ := h
      obtain ⟨gs, gl, ga⟩ := agEs_ok (es := es) (pes := pes) c h5
      exact .of (good_mk h2 (c.cs _ _ _ (List.contains_iff_mem.mp h1)) (glB_ok c h3) h4 gs gl) (fun _ _ _ e => nomatch e) rfl fun _ e => nomatch e
    · cases h
  | .call g es, pe, sc, X, c, h => by
    simp only [agE] at h
    split at h
    · rename_i x p pes pos
      simp only [Bool.and_eq_true, Bool.not_eq_true'] at h
      obtain ⟨⟨⟨h1, h2⟩, h3⟩, h4⟩ := h
      have can := c.call _ _ _ (List.contains_iff_mem.mp h1)
      have gs := (agEs_ok (es := es) (pes := pes) c h4).1
      cases pes with
      | nil =>
        cases es with
        | nil => exact .of (good_call0 can (glB_ok c h2) h3) (fun _ _ _ e => nomatch e) rfl fun _ e => nomatch e
        | cons e es => simp [agEs] at h4
      | cons p ps => exact .of (good_call can (glB_ok c h2) h3 gs) (fun _ _ _ e => nomatch e) rfl fun _ e => nomatch e
    · cases h
  | .bi b es, pe, sc, X, c, h => by
    simp only [agE] at h
    split at h
    · split at h
      · rename_i hb
        subst hb
        simp only [Bool.and_eq_true, decide_eq_true_eq, beq_iff_eq] at h
        obtain ⟨⟨⟨⟨⟨⟨rfl, rfl⟩, h3⟩, h4⟩, h5⟩, h6⟩, h7⟩ := h
        match es, h5 with
        | [e1], _ =>
          have n1 : isIo e1 = none := by simpa using h6
          have q1 := (agEs_ok (es := [e1]) c h7).2.2 0 e1 _ rfl rfl n1
          exact .of (good_sortset c.un c.calm (glB_ok c h3) (c.blt _ (by decide)) (glB_ok c h4) (c.blt _ (by decide)) q1.good q1.ni q1.star) (fun _ _ _ e => nomatch e) rfl fun _ e => nomatch e
      · simp only [Bool.and_eq_true, decide_eq_true_eq] at h
        obtain ⟨⟨⟨⟨h1, h2⟩, h3⟩, h4⟩, h5⟩ := h
        exact .of (good_bi c.un c.calm h2 h1 (glB_ok c h4) (bltx c h3) (agEs_ok c h5).1) (fun _ _ _ e => nomatch e) rfl fun _ e => nomatch e
    · simp only [Bool.and_eq_true, decide_eq_true_eq] at h
      obtain ⟨⟨⟨⟨h1, h2⟩, h3⟩, h4⟩, h5⟩ := h
      exact .of (good_bi c.un c.calm h2 h1 (glB_ok c h4) (bltx c h3) (agEs_ok c h5).1) (fun _ _ _ e => nomatch e) rfl fun _ e => nomatch e
    · cases h
  | .isi a ts, pe, sc, X, c, h => by
    simp only [agE] at h
    split at h
    · simp only [Bool.and_eq_true, decide_eq_true_eq] at h
      obtain ⟨⟨⟨⟨⟨⟨rfl, h2⟩, h3⟩, h4⟩, h5⟩, h6⟩, h7⟩ := h
      have q := agE_ok c h7
      exact .of (good_isi h2 (glB_ok c h5) (c.blt _ (by decide)) h3 (glB_ok c h6) (bltx c h4) q.good q.star) (fun _ _ _ e => nomatch e) rfl fun _ e => nomatch e
    · simp only [Bool.and_eq_true, decide_eq_true_eq] at h
      obtain ⟨⟨⟨⟨⟨⟨⟨⟨⟨⟨rfl, h2⟩, h2'⟩, h3⟩, h3'⟩, h4⟩, h4'⟩, h5⟩, h6⟩, h6'⟩, h7⟩ := h
      have q := agE_ok c h7
      exact .of (good_isi2 h2 h2' (glB_ok c h5) (c.blt _ (by decide)) h3 (glB_ok c h6) (bltx c h4) h3' (glB_ok c h6') (bltx c h4') q.good q.star) (fun _ _ _ e => nomatch e) rfl fun _ e => nomatch e
    · cases h
  | .bm m o es, pe, sc, X, c, h => by
    simp only [agE] at h
    split at h
    · rename_i po nm apos pes cpos
      simp only [Bool.and_eq_true] at h
      obtain ⟨⟨⟨⟨h1, h2⟩, h3⟩, h4⟩, h5⟩ := h
      have q := agE_ok c h3
      obtain ⟨gs, hlen, hat⟩ := agEs_ok (es := es) (pes := pes) c h4
      split at h5
      · rename_i a b
        simp only [Bool.and_eq_true, decide_eq_true_eq] at h5
        obtain ⟨rfl, h6⟩ := h5
        obtain ⟨pa, pb, rfl⟩ : ∃ pa pb, pes = [pa, pb] := by
          match pes, hlen with
          | [pa, pb], _ => exact ⟨pa, pb, rfl⟩
        have n1 : isIo a = none ∧ isIo b = none := by
          constructor
          · cases a <;> first | rfl | (simp at h6; done)
          · cases b <;> first | rfl | (simp at h6; done)
        have qa := hat 0 a pa rfl rfl n1.1
        have qb := hat 1 b pb rfl rfl n1.2
        exact .of (good_get (by have := c.un; omega) q.good qa.good qb.good qa.ni qb.ni h1 qa.star qb.star h2) (fun _ _ _ e => nomatch e) rfl fun _ e => nomatch e
      · rw [decide_eq_true_eq] at h5
        subst h5
        cases pes with
        | nil => exact .of (good_upper q.good h1 h2) (fun _ _ _ e => nomatch e) rfl fun _ e => nomatch e
        | cons _ _ => simp at hlen
      · rename_i a
        simp only [Bool.and_eq_true, decide_eq_true_eq] at h5
        obtain ⟨rfl, h6⟩ := h5
        obtain ⟨pa, rfl⟩ : ∃ pa, pes = [pa] := by
          match pes, hlen with
          | [pa], _ => exact ⟨pa, rfl⟩
        have n1 : isIo a = none := by
          cases a <;> first | rfl | (simp at h6; done)
        have qa := hat 0 a pa rfl rfl n1
        exact .of (good_join q.good qa.good qa.ni h1 qa.star h2) (fun _ _ _ e => nomatch e) rfl fun _ e => nomatch e
      · rename_i a
        simp only [Bool.and_eq_true, decide_eq_true_eq] at h5
        obtain ⟨rfl, h6⟩ := h5
        obtain ⟨pa, rfl⟩ : ∃ pa, pes = [pa] := by
          match pes, hlen with
          | [pa], _ => exact ⟨pa, rfl⟩
        have n1 : isIo a = none := by
          cases a <;> first | rfl | (simp at h6; done)
        have qa := hat 0 a pa rfl rfl n1
        exact .of (good_index c.un q.good qa.good qa.ni qa.star h1 h2) (fun _ _ _ e => nomatch e) rfl fun _ e => nomatch e
      · cases h5
    · cases h
  | .lc k e t it d, pe, sc, X, c, h => by
    simp only [agE] at h
    split at h
    · rename_i pel tg iter ifs a scope pos
      simp only [Bool.and_eq_true, Bool.not_eq_true', beq_iff_eq] at h
      obtain ⟨⟨⟨⟨⟨⟨rfl, h1⟩, h2⟩, h3⟩, h4⟩, h5⟩, h6⟩ := h
      have cb := fun (s : Shared) (H : Hp) (C : Addr) (cl : List (Str × Addr)) (fp : List Addr) => c.blk s H scope cl C fp
      have pit : PI X tg iter (tI cf io X.K it (E.muts e ++ E.mutso d)) := by
        split at h6
        · exact agR_ok c h6 tg _
        · exact good_it (agE_ok c h6).good
      refine .of (good_lc c.calm (by rw [c.N]; exact c.nd) ⟨pit, ⟨_, by rw [c.N, c.scq]; exact blk_ok h2, own_map t⟩, fun s H C cl fp => (agT_ok (cb s H C cl fp) (fun x hx => hx) h3).1, fun s H C cl fp => agC_ok (cb s H C cl fp) h4, fun s H C cl fp => (agE_ok (cb s H C cl fp) h5).good.val, h1⟩) (fun _ _ _ e => nomatch e) rfl fun _ e => nomatch e
    · cases h
  | .srt a, pe, sc, X, c, h => by
    simp only [agE] at h
    split at h
    · simp only [Bool.and_eq_true, decide_eq_true_eq] at h
      obtain ⟨⟨⟨rfl, h1⟩, h2⟩, h3⟩ := h
      have q := agE_ok c h3
      exact .of (good_srt c.un (glB_ok c h1) (c.blt _ (by decide)) q.good q.ni q.star) (fun _ _ _ e => nomatch e) rfl fun _ e => nomatch e
    · cases h
  | .gix x zs a, pe, sc, X, c, h => by
    simp only [agE] at h
    split at h
    · simp only [Bool.and_eq_true, decide_eq_true_eq, Bool.not_eq_true'] at h
      obtain ⟨⟨⟨⟨⟨⟨rfl, h1⟩, h2⟩, h3⟩, h4⟩, h5⟩, h6⟩ := h
      obtain ⟨v, u, g1, g2, g3⟩ := gt_ok c h4
      have q := agE_ok c h6
      exact .of (good_gix (pe_glob (glB_ok c h2) g1 g2 h3) g3 q.good q.ni q.star rfl h1) (fun _ _ _ e => nomatch e) rfl fun _ e => nomatch e
    · cases h
  | .dcs k kvs, pe, sc, X, c, h => by
    simp only [agE] at h
    split at h
    · simp only [Bool.and_eq_true, decide_eq_true_eq, Bool.not_eq_true', List.isEmpty_eq_false_iff] at h
      exact .of (good_dcs (dc_ok h.2) h.1.1 h.1.2) (fun _ _ _ e => nomatch e) rfl fun _ e => nomatch e
    · cases h
  | .rng _, pe, sc, X, c, h => by simp only [agE] at h; cases h
  | .zip _ _, pe, sc, X, c, h => by simp only [agE] at h; cases h
  | .enm _, pe, sc, X, c, h => by simp only [agE] at h; cases h
  | .fst _, pe, sc, X, c, h => by simp only [agE] at h; cases h
termination_by structural e => e
theorem agR_ok : ∀ {e : E} {pe : Expr} {sc : Scope} {X : Cx}, Cty cf X T sc → agR T sc e pe = true → ∀ tg ms, PI X tg pe (tI cf io X.K e ms)
  | .rng es, pe, sc, X, c, h, tg, ms => by
    simp only [agR] at h
    split at h
    · rename_i x p pes pos
      simp only [Bool.and_eq_true, decide_eq_true_eq] at h
      obtain ⟨⟨⟨rfl, g1⟩, g2⟩, g3⟩ := h
      obtain ⟨gs, gl, ga⟩ := agEs_ok (es := es) (pes := pes) c g3
      match es, pes, gl, gs with
      | [ea], [a], _, gs => exact good_rng1 (glB_ok c g1) (c.blt _ (by decide)) gs
      | [ea, eb], [a, b], _, gs => exact good_rng2 (glB_ok c g1) (c.blt _ (by decide)) gs
      | [], [], _, _ => simp at g2
      | _ :: _ :: _ :: _, _ :: _ :: _ :: _, _, _ => simp at g2
    · cases h
  | .con _, _, _, _, _, h, _, _ | .gl _ _, _, _, _, _, h, _, _ | .var _, _, _, _, _, h, _, _ | .mv _, _, _, _, _, h, _, _ | .gv _, _, _, _, _, h, _, _ | .io _, _, _, _, _, h, _, _ | .bin _ _ _, _, _, _, _, h, _, _ | .neg _, _, _, _, _, h, _, _
  | .cmp _ _ _, _, _, _, _, h, _, _ | .chn _ _ _ _ _, _, _, _, _, h, _, _ | .and _ _, _, _, _, _, h, _, _ | .or _ _, _, _, _, _, h, _, _ | .not _, _, _, _, _, h, _, _ | .ite _ _ _, _, _, _, _, h, _, _ | .tup _ _, _, _, _, _, h, _, _
  | .lst _ _, _, _, _, _, h, _, _ | .dct _ _, _, _, _, _, h, _, _ | .idx _ _, _, _, _, _, h, _, _ | .slc _ _ _, _, _, _, _, h, _, _ | .rev _, _, _, _, _, h, _, _ | .fld _ _ _, _, _, _, _, h, _, _ | .fk _ _, _, _, _, _, h, _, _ | .meth _ _ _ _, _, _, _, _, h, _, _ | .mk _ _ _ _, _, _, _, _, h, _, _ | .call _ _, _, _, _, _, h, _, _
  | .bi _ _, _, _, _, _, h, _, _ | .isi _ _, _, _, _, _, h, _, _ | .bm _ _ _, _, _, _, _, h, _, _ | .lc _ _ _ _ _, _, _, _, _, h, _, _ | .zip _ _, _, _, _, _, h, _, _ | .enm _, _, _, _, _, h, _, _ | .fst _, _, _, _, _, h, _, _ | .srt _, _, _, _, _, h, _, _ | .gix _ _ _, _, _, _, _, h, _, _ | .dcs _ _, _, _, _, _, h, _, _ => by simp only [agR] at h; cases h
termination_by structural e => e
theorem agEs_ok : ∀ {es : List E} {pes : List Expr} {sc : Scope} {X : Cx}, Cty cf X T sc → agEs T sc es pes = true → Goods cf io X es pes ∧ es.length = pes.length ∧ ∀ (i : Nat) (e : E) (pe : Expr), es[i]? = some e → pes[i]? = some pe → isIo e = none → Ag cf io X e pe
  | [], pes, sc, X, c, h => by
    simp only [agEs] at h
    cases pes with
    | nil => exact ⟨goods_nil, rfl, fun i e pe h => by simp at h⟩
    | cons _ _ => cases h
  | e :: es, pes, sc, X, c, h => by
    simp only [agEs] at h
    split at h
    · cases h
    · rename_i p ps
      simp only [Bool.and_eq_true] at h
      obtain ⟨h1, h2⟩ := h
      obtain ⟨g, gl, ga⟩ := agEs_ok (es := es) (pes := ps) c h2
      split at h1
      · rename_i i hi
        have ei : e = .io i := by cases e <;> simp only [isIo] at hi <;> cases hi; rfl
        subst ei
        cases p <;> simp only [ioB] at h1 <;> try cases h1
        obtain ⟨h1, h2, h3, h4⟩ := nmB_ok c h1
        refine ⟨goods_io h1 h2 h3 h4 g, by simp [gl], fun j e' pe' q1 q2 q3 => ?_⟩
        cases j with
        | zero => simp at q1; subst q1; cases q3
        | succ j => exact ga j e' pe' (by simpa using q1) (by simpa using q2) q3
      · have q : Ag cf io X e p := agE_ok c h1
        refine ⟨goods_cons q.ni q.good q.star g, by simp [gl], fun j e' pe' q1 q2 q3 => ?_⟩
        cases j with
        | zero => simp at q1 q2; subst q1 q2; exact q
        | succ j => exact ga j e' pe' (by simpa using q1) (by simpa using q2) q3
termination_by structural es => es
theorem agO_ok : ∀ {e : Option E} {pe : Option Expr} {sc : Scope} {X : Cx}, Cty cf X T sc → agO T sc e pe = true → PO X pe (tO cf io X.K e)
  | none, pe, sc, X, c, h => by
    simp only [agO] at h
    cases pe with
    | none => exact good_none
    | some _ => cases h
  | some e, pe, sc, X, c, h => by
    simp only [agO] at h
    split at h
    · exact good_some (agE_ok c h).good
    · cases h
termination_by structural e => e
theorem agC_ok : ∀ {e : Option E} {pe : List Expr} {sc : Scope} {X : Cx}, Cty cf X T sc → agC T sc e pe = true → PTs X pe (tCo cf io X.K e)
  | none, pe, sc, X, c, h => by
    simp only [agC] at h
    cases pe with
    | nil => exact good_noIf
    | cons _ _ => cases h
  | some e, pe, sc, X, c, h => by
    simp only [agC] at h
    split at h
    · exact good_if (agE_ok c h).good
    · cases h
termination_by structural e => e
end
end Ti
end

section
/-! agreement of statements -/
namespace Ti
open PySem PySem.Spec PyProof.Rows L2

def agP (T : Tab) (sc : Scope) (i : Nat) : List E → Expr → Bool
  | [], pe => match pe with
    | .Name x _ => nmB T sc i x
    | _ => false
  | [.fk c f], pe => match pe with
    | .Attribute (.Name x _) y _ => nmB T sc i x && T.fl.contains (c, f) && decide (y = Str.ofString f)
    | _ => false
  | [key], pe => match pe with
    | .Subscript (.Name x _) pk _ => nmB T sc i x && plainIxB pk && agE T sc key pk
    | _ => false
  | _, _ => false
mutual
def agS (T : Tab) (sc : Scope) : S → Stmt → Bool
  | .asg i _ e, st => match st with
    | .Assign [.Name x _] pe _ => decide (T.N[i]? = some x) && locB sc (fun _ => true) x && agE T sc e pe
    | _ => false
  | .unp t e, st => match st with
    | .Assign [.Tuple ts k p] pe _ => agT T sc (fun _ => true) t (.Tuple ts k p) && !isTupX pe && agE T sc e pe
    | _ => false
  | .put i p a e, st => match st with
    | .Assign [.Subscript o pk _] pe _ => agP T sc i p o && plainIxB pk && agE T sc a pk && agE T sc e pe
    | _ => false
  | .app i p e, st => match st with
    | .Expr (.Call (.Attribute o nm apos) [pa] [] cpos) _ => decide (nm = ("append" : Str)) && agP T sc i p o && plainBase o && (apos.endLine == cpos.line) && (isIo e).isNone && agE T sc e pa
    | _ => false
  | .ext i p e, st => match st with
    | .Expr (.Call (.Attribute o nm apos) [pa] [] cpos) _ => decide (nm = ("extend" : Str)) && agP T sc i p o && plainBase o && (apos.endLine == cpos.line) && (isIo e).isNone && agE T sc e pa
    | _ => false
  | .extm i p e, st => match st with
    | .Expr (.Call (.Attribute o nm apos) [pa] [] cpos) _ => decide (nm = ("extend" : Str)) && agP T sc i p o && plainBase o && (apos.endLine == cpos.line) && (isIo e).isNone && agE T sc e pa
    | _ => false
  | .fset i c f e, st => match st with
    | .Assign [.Attribute (.Name x _) y _] pe _ => nmB T sc i x && T.fl.contains (c, f) && decide (y = Str.ofString f) && agE T sc e pe
    | _ => false
  | .ins i p a b, st => match st with
    | .Expr (.Call (.Attribute o nm apos) [pa, pb] [] cpos) _ => decide (nm = ("insert" : Str)) && agP T sc i p o && plainBase o && (apos.endLine == cpos.line) && agEs T sc [a, b] [pa, pb]
    | _ => false
  | .pop i p a, st => match st with
    | .Expr (.Call (.Attribute o nm apos) pes [] cpos) _ => decide (nm = ("pop" : Str)) && agP T sc i p o && plainBase o && (apos.endLine == cpos.line) && (match a, pes with
      | none, [] => true
      | some e, [pa] => (isIo e).isNone && agE T sc e pa
      | _, _ => false)
    | _ => false
  | .ex e, st => match st with
    | .Expr pe _ => !isComp pe && agE T sc e pe
    | _ => false
  | .ite c a b, st => match st with
    | .If pc pa pb _ => agE T sc c pc && agSs T sc a pa && agSs T sc b pb
    | _ => false
  | .for_ t it b, st => match st with
    | .For tg iter pb [] _ => agT T sc (fun _ => true) t tg && !isSetX iter && agSs T sc b pb && (match it with
        | .enm ea => (match t, tg, iter with
          | .tp _, .Tuple _ _ _, .Call (.Name x _) [pa] [] _ => decide (x = ("enumerate" : Str)) && glB sc x && agE T sc ea pa
          | _, _, _ => false)
        | it => if isRng it then agR T sc it iter else agE T sc it iter)
    | _ => false
  | .fom i j b, st => match st with
    | .For (.Name x _) (.Name y _) pb [] _ => decide (T.N[i]? = some x) && locB sc (fun _ => true) x && nmB T sc j y && agSs T sc b pb
    | _ => false
  | .whl c b, st => match st with
    | .While pc pb [] _ => agE T sc c pc && agSs T sc b pb
    | _ => false
  | .ret e, st => match st with
    | .Return (some pe) _ => agE T sc e pe
    | _ => false
  | .retN, st => match st with
    | .Return none _ => true
    | _ => false
  | .pass, st => match st with
    | .Pass _ => true
    | .Expr (.Constant (.str _) _ _) _ => true
    | _ => false
  | .brk, st => match st with
    | .Break _ => true
    | _ => false
  | .ct, st => match st with
    | .Continue _ => true
    | _ => false
  | .never, _ => true
termination_by structural x => x
def agSs (T : Tab) (sc : Scope) : List S → List Stmt → Bool
  | [], sts => sts.isEmpty
  | x :: xs, sts => match sts with
    | [] => false
    | s :: ss => agS T sc x s && agSs T sc xs ss
termination_by structural x => x
end
variable [PWc]
variable {cf : Nat → List Arg → Rs} {io : List Nat} {n : Nat} {X : Cx} {T : Tab} {sc : Scope}
theorem agP_nf {i : Nat} {key : E} {pe : Expr} (h : isFk key = none) : agP T sc i [key] pe = match pe with
    | .Subscript (.Name x _) pk _ => nmB T sc i x && plainIxB pk && agE T sc key pk
    | _ => false := by
  unfold agP
  cases key <;> first | rfl | (cases h; done)
theorem pth_ok (c : Cty cf X T sc) {i : Nat} {p : List E} {o : Expr} (h : agP T sc i p o = true) : PE X o (tPth cf io X.K i p) ∧ p.length ≤ 1 ∧ ∀ c f, p = [E.fk c f] → ∀ C, ClsAt X.K c C → Cls X.K C ∧ NoAttr X.K C (Str.ofString f) := by
  match p, h with
  | [], h =>
    simp only [agP] at h
    split at h
    · obtain ⟨h1, h2, h3, h4⟩ := nmB_ok c h
      exact ⟨pe_var h1 h2 h3 h4, by simp, fun _ _ e => nomatch e⟩
    · cases h
  | [key], h =>
    cases hk : isFk key with
    | some q =>
      obtain ⟨c', f⟩ := q
      obtain rfl : key = .fk c' f := by
        cases key <;> simp only [isFk] at hk <;> cases hk
        rfl
      simp only [agP] at h
      split at h
      · simp only [Bool.and_eq_true, decide_eq_true_eq] at h
        obtain ⟨⟨h0, h5⟩, rfl⟩ := h
        obtain ⟨h1, h2, h3, h4⟩ := nmB_ok c h0
        have hc := c.fl _ _ (List.contains_iff_mem.mp h5)
        refine ⟨pe_fld (pe_var h1 h2 h3 h4) rfl, by simp, fun c2 f2 e => ?_⟩
        cases e
        exact hc
      · cases h
    | none =>
      rw [agP_nf hk] at h
      rw [tPth_nf hk]
      split at h
      · simp only [Bool.and_eq_true] at h
        obtain ⟨h1, h2, h3, h4⟩ := nmB_ok c h.1.1
        refine ⟨pe_ix (ix_P c.un) (pe_var h1 h2 h3 h4) (agE_ok c h.2).good.val (plainIx_of h.1.2), by simp, fun c2 f2 e => ?_⟩
        cases e
        cases hk
      · cases h
  | _ :: _ :: _, h => simp [agP] at h
theorem lc_parts (c : Cty cf X T sc) {k : Nat} {e it : E} {t : Tg} {d : Option E} {pel tg iter : Expr} {ifs : List Expr} {a : Int} {scope : Scope} {pos : Pos} (h : agE T sc (.lc k e t it d) (.ListComp pel [⟨tg, iter, ifs, a⟩] scope pos) = true) :
    LcParts cf io X e it t d pel tg iter ifs scope ∧ a = 0 := by
  simp only [agE] at h
  simp only [Bool.and_eq_true, Bool.not_eq_true', beq_iff_eq] at h
  obtain ⟨⟨⟨⟨⟨⟨rfl, h1⟩, h2⟩, h3⟩, h4⟩, h5⟩, h6⟩ := h
  have cb := fun (s : Shared) (H : Hp) (C : Addr) (cl : List (Str × Addr)) (fp : List Addr) => c.blk s H scope cl C fp
  have pit : PI X tg iter (tI cf io X.K it (E.muts e ++ E.mutso d)) := by
    split at h6
    · exact agR_ok c h6 tg _
    · exact good_it (agE_ok c h6).good
  exact ⟨⟨pit, ⟨_, by rw [c.N, c.scq]; exact blk_ok h2, own_map t⟩, fun s H C cl fp => (agT_ok (cb s H C cl fp) (fun x hx => hx) h3).1, fun s H C cl fp => agC_ok (cb s H C cl fp) h4, fun s H C cl fp => (agE_ok (cb s H C cl fp) h5).good.val, h1⟩, rfl⟩
theorem swap_none {pe : Expr} (h : isComp pe = false) (t : Option Expr) (l : Nat) (env : Env) : swapsWith pe t l env = pure false := by
  cases pe <;> first | rfl | (cases h; done)
theorem swap_att {pe o : Expr} {f : Str} {p : Pos} (l : Nat) (env : Env) : swapsWith pe (some (.Attribute o f p)) l env = pure false := by cases pe <;> rfl
theorem swap_tup {pe : Expr} {ts : List Expr} {k : Nat} {p : Pos} (l : Nat) (env : Env) : swapsWithSole [.Tuple ts k p] pe l env = pure false := by
  show swapsWith pe (some (.Tuple ts k p)) l env = pure false
  cases pe <;> rfl
theorem swap_st {pe : Expr} (h : isTupX pe = false) {ts : List Expr} {k : Nat} {p : Pos} (env : Env) : swappedStores [.Tuple ts k p] pe env = pure none := by
  cases pe <;> first | rfl | (cases h; done)
theorem agE_comp {e : E} {pe : Expr} (h : agE T sc e pe = true) (hc : isComp pe = true) : ∃ k e' t it d pel tg iter ifs a scope pos, e = .lc k e' t it d ∧ pe = .ListComp pel [⟨tg, iter, ifs, a⟩] scope pos := by
  cases pe <;> simp only [isComp] at hc <;> first
    | (exfalso; exact Bool.false_ne_true hc)
    | (cases e <;> first
        | (exfalso; simp [agE] at h; done)
        | (simp only [agE] at h
           split at h
           · rename_i q
             cases q
             exact ⟨_, _, _, _, _, _, _, _, _, _, _, _, rfl, rfl⟩
           · cases h))
theorem asg_ok (c : Cty cf X T sc) (hfn : ∀ x, X.fn x = true) {i k : Nat} {e : E} {x : Str} {p : Pos} {pe : Expr} {pos : Pos} (h1 : T.N[i]? = some x) (h2 : locB sc (fun _ => true) x = true) (h3 : agE T sc e pe = true) :
    PS X (.Assign [.Name x p] pe pos) (tS cf io n X.K (.asg i k e)) := by
  have hN : X.N.Nodup := by rw [c.N]; exact c.nd
  have hi : X.N[i]? = some x := by rw [c.N]; exact h1
  obtain ⟨l1, l2⟩ := locB_ok c (fun x _ => hfn x) h2
  cases hc : isComp pe with
  | false => exact good_asg hN hi l1 l2 (agE_ok c h3).good (swap_none hc _ _ _)
  | true =>
    obtain ⟨k', e', t, it, d, pel, tg, iter, ifs, a, scope, pos', rfl, rfl⟩ := agE_comp h3 hc
    obtain ⟨lp, rfl⟩ := lc_parts (io := io) c h3
    have sw : swapsWith (.ListComp pel [⟨tg, iter, ifs, 0⟩] scope pos') (some (.Name x p)) pos.line X.env = pure (X.env.blockKind == .function && X.env.kindOf x == some .local && p.line == pos'.line && !(scope.names.any fun (n, k) => n == x && (k == .local || k == .cell))) := rfl
    cases hb : (X.env.blockKind == .function && X.env.kindOf x == some .local && p.line == pos'.line && !(scope.names.any fun (n, k) => n == x && (k == .local || k == .cell))) with
    | false =>
      rw [hb] at sw
      exact good_asg hN hi l1 l2 (agE_ok c h3).good sw
    | true =>
      rw [hb] at sw
      simp only [Bool.and_eq_true, beq_iff_eq] at hb
      obtain ⟨own, ok, ho⟩ := lp.ok
      have q := ps_setLc c.calm hN hi hb.1.1.2 sw lp.it ok lp.tg lp.ifs lp.el (foldSet lp.st _)
      rw [ho] at q
      exact PS.imp q fun En σ H hh => lc_key _ _ _ (asg_key En σ H hh)
theorem ni_of {e : E} (h : (isIo e).isNone = true) : ∀ i, e ≠ .io i := fun i z => by subst z; cases h
theorem goods1 {e : E} {pe : Expr} (h : Ag cf io X e pe) : Goods cf io X [e] [pe] := goods_cons h.ni h.good h.star goods_nil
mutual
theorem agS_ok (c : Cty cf X T sc) (hfn : ∀ x, X.fn x = true) (hp : PassesOwn (model X.prog X.w) X.A X.env X.xe) : ∀ {x : S} {st : Stmt} (io : List Nat), agS T sc x st = true → PS X st (tS cf io n X.K x)
  | .asg i k e, st, io, h => by
    simp only [agS] at h
    split at h
    · simp only [Bool.and_eq_true, decide_eq_true_eq] at h
      exact asg_ok c hfn h.1.1 h.1.2 h.2
    · cases h
  | .unp t e, st, io, h => by
    simp only [agS] at h
    split at h
    · simp only [Bool.and_eq_true, Bool.not_eq_true'] at h
      have q := agT_ok c (fun x _ => hfn x) h.1.1
      exact good_unp (agE_ok c h.2).good q.1 (swap_tup _ _) (swap_st h.1.2 _) q.2
    · cases h
  | .put i p a e, st, io, h => by
    simp only [agS] at h
    split at h
    · simp only [Bool.and_eq_true] at h
      obtain ⟨q1, q2, q3⟩ := pth_ok (io := io) c h.1.1.1
      exact good_put c.pw c.un q1 q2 q3 (agE_ok c h.1.2).good h.1.1.2 (agE_ok c h.2).good
    · cases h
  | .app i p e, st, io, h => by
    simp only [agS] at h
    split at h
    · simp only [Bool.and_eq_true, decide_eq_true_eq] at h
      obtain ⟨⟨⟨⟨⟨rfl, h1⟩, h2⟩, h3⟩, h4⟩, h5⟩ := h
      obtain ⟨q1, q2, q3⟩ := pth_ok (io := io) c h1
      exact good_app q1 q2 q3 (goods1 (agE_ok c h5)) (ni_of h4) h2 h3
    · cases h
  | .ext i p e, st, io, h => by
    simp only [agS] at h
    split at h
    · simp only [Bool.and_eq_true, decide_eq_true_eq] at h
      obtain ⟨⟨⟨⟨⟨rfl, h1⟩, h2⟩, h3⟩, h4⟩, h5⟩ := h
      obtain ⟨q1, q2, q3⟩ := pth_ok (io := io) c h1
      exact good_ext q1 q2 q3 (goods1 (agE_ok c h5)) (ni_of h4) h2 h3
    · cases h
  | .extm i p e, st, io, h => by
    simp only [agS] at h
    split at h
    · simp only [Bool.and_eq_true, decide_eq_true_eq] at h
      obtain ⟨⟨⟨⟨⟨rfl, h1⟩, h2⟩, h3⟩, h4⟩, h5⟩ := h
      obtain ⟨q1, q2, q3⟩ := pth_ok (io := io) c h1
      exact good_extm q1 q2 q3 (goods1 (agE_ok c h5)) (ni_of h4) h2 h3
    · cases h
  | .fset i c' f e, st, io, h => by
    simp only [agS] at h
    split at h
    · simp only [Bool.and_eq_true, decide_eq_true_eq] at h
      obtain ⟨⟨⟨h0, h5⟩, rfl⟩, h6⟩ := h
      obtain ⟨h1, h2, h3, h4⟩ := nmB_ok c h0
      exact good_fset h1 h2 h3 h4 (c.fl _ _ (List.contains_iff_mem.mp h5)) (agE_ok c h6).good (swap_att _ _)
    · cases h
  | .ins i p a b, st, io, h => by
    simp only [agS] at h
    split at h
    · simp only [Bool.and_eq_true, decide_eq_true_eq] at h
      obtain ⟨⟨⟨⟨rfl, h1⟩, h2⟩, h3⟩, h5⟩ := h
      obtain ⟨q1, q2, q3⟩ := pth_ok (io := io) c h1
      exact good_ins q1 q2 q3 (agEs_ok c h5).1 h2 h3
    · cases h
  | .pop i p a, st, io, h => by
    simp only [agS] at h
    split at h
    · simp only [Bool.and_eq_true, decide_eq_true_eq] at h
      obtain ⟨⟨⟨⟨rfl, h1⟩, h2⟩, h3⟩, h5⟩ := h
      obtain ⟨q1, q2, q3⟩ := pth_ok (io := io) c h1
      split at h5
      · exact good_pop0 q1 q2 q3 h2 h3
      · simp only [Bool.and_eq_true] at h5
        exact good_pop1 q1 q2 q3 (goods1 (agE_ok c h5.2)) (ni_of h5.1) h2 h3
      · cases h5
    · cases h
  | .ex e, st, io, h => by
    simp only [agS] at h
    split at h
    · simp only [Bool.and_eq_true, Bool.not_eq_true'] at h
      exact good_ex (agE_ok c h.2).good (swap_none h.1 _ _ _)
    · cases h
  | .ite d a b, st, io, h => by
    simp only [agS] at h
    split at h
    · simp only [Bool.and_eq_true] at h
      exact good_ifs (agE_ok c h.1.1).good (agSs_ok c hfn hp io h.1.2) (agSs_ok c hfn hp io h.2)
    · cases h
  | .for_ t it b, st, io, h => by
    simp only [agS] at h
    split at h
    · rename_i tg iter pb pos
      simp only [Bool.and_eq_true, Bool.not_eq_true'] at h
      obtain ⟨⟨⟨h1, h2⟩, h3⟩, h4⟩ := h
      split at h4
      · split at h4
        · rename_i ts pts kk tpos x p pa cpos
          simp only [Bool.and_eq_true, decide_eq_true_eq] at h4
          obtain ⟨⟨rfl, h5⟩, h6⟩ := h4
          simp only [agT] at h1
          have q := agE_ok (io := io) c h6
          exact good_forG hp c.calm (good_enm (glB_ok c h5) (c.blt _ (by decide)) q.good q.star) (good_tpE c.calm (agTs_ok c (fun x _ => hfn x) h1)) (agSs_ok c hfn hp io h3) (foldSet h2 _)
        · cases h4
      · have pit : PI X tg iter (tI cf io X.K it (t.slots ++ S.mutss b)) := by
          split at h4
          · exact agR_ok c h4 tg _
          · exact good_it (agE_ok c h4).good
        exact good_for hp c.calm pit (agT_ok c (fun x _ => hfn x) h1).1 (agSs_ok c hfn hp io h3) (foldSet h2 _)
    · cases h
  | .fom i j b, st, io, h => by
    simp only [agS] at h
    split at h
    · simp only [Bool.and_eq_true, decide_eq_true_eq] at h
      obtain ⟨⟨⟨h1, h2⟩, h3⟩, h4⟩ := h
      obtain ⟨l1, l2⟩ := locB_ok c (fun x _ => hfn x) h2
      obtain ⟨q1, q2, q3, q4⟩ := nmB_ok c h3
      exact good_fom hp c.calm (by rw [c.N]; exact c.nd) (by rw [c.N]; exact h1) l1 l2 q1 q2 q3 q4 (agSs_ok c hfn hp (i :: j :: io) h4) fun _ => rfl
    · cases h
  | .whl d b, st, io, h => by
    simp only [agS] at h
    split at h
    · simp only [Bool.and_eq_true] at h
      exact good_whl hp (agE_ok c h.1).good (agSs_ok c hfn hp io h.2)
    · cases h
  | .ret e, st, io, h => by
    simp only [agS] at h
    split at h
    · exact good_ret (agE_ok c h).good
    · cases h
  | .retN, st, io, h => by
    simp only [agS] at h
    split at h
    · exact good_retN
    · cases h
  | .pass, st, io, h => by
    simp only [agS] at h
    split at h
    · exact good_pass
    · exact good_doc
    · cases h
  | .brk, st, io, h => by
    simp only [agS] at h
    split at h
    · exact good_brk
    · cases h
  | .ct, st, io, h => by
    simp only [agS] at h
    split at h
    · exact good_ct
    · cases h
  | .never, st, io, h => good_never
termination_by structural x => x
theorem agSs_ok (c : Cty cf X T sc) (hfn : ∀ x, X.fn x = true) (hp : PassesOwn (model X.prog X.w) X.A X.env X.xe) : ∀ {xs : List S} {sts : List Stmt} (io : List Nat), agSs T sc xs sts = true → PSs X sts (tSs cf io n X.K xs)
  | [], sts, io, h => by
    simp only [agSs] at h
    cases sts with
    | nil => exact good_ss_nil
    | cons _ _ => cases h
  | x :: xs, sts, io, h => by
    simp only [agSs] at h
    split at h
    · cases h
    · simp only [Bool.and_eq_true] at h
      exact good_ss_cons (agS_ok c hfn hp io h.1) (agSs_ok c hfn hp io h.2)
termination_by structural x => x
end
end Ti
end

section
/-! defs -/
namespace Ti
open PySem PySem.Spec PyProof.Rows L2
variable [PWc]

section
variable {K : PySem.W.Frag} {B Dz Dz' : Addr → Prop} {F F' : Nat → List Addr} {H H' : Hp} {M : List Nat} {s s' : Sl} {σ σ' : L2.St}
/-- the slots of the names that stand for nothing yet -/
theorem Rel.more {n : Nat} (R : Rel K B Dz F s σ H) : Rel K B Dz F (s ++ List.replicate n .no) (σ ++ List.replicate n none) H := by
  refine ⟨by simp [R.len], fun i x e => ?_, R.nd, R.dj, R.dz, fun i hi => R.out i (by rw [List.length_append] at hi; omega), R.mt, R.tk, R.bz, R.bt⟩
  by_cases hi : i < s.length
  · rw [List.getElem?_append_left hi] at e
    rw [List.getElem?_append_left (by rw [← R.len]; exact hi)]
    exact R.sl i x e
  · rw [List.getElem?_append_right (by omega), List.getElem?_replicate] at e
    split at e
    · cases e
      exact R.out i (by omega)
    · cases e
theorem outs_at : ∀ {as : List Arg} {i0 : Nat} {outs : List D} {i : Nat} {x : Slot}, outsOf s as i0 = some outs → (outSl as outs)[i]? = some x → (∃ k d, as[i]? = some (Arg.pv k d) ∧ x = .bo k d) ∨ ∃ k d o, as[i]? = some (Arg.io k d) ∧ x = .ow k o ∧ s[i0 + i]? = some (.ow k o)
  | [], i0, outs, i, x, h, e => by simp [outSl] at e
  | .pv k d :: as, i0, outs, i, x, h, e => by
    simp only [outsOf] at h
    simp only [outSl] at e
    cases i with
    | zero => simp at e; exact .inl ⟨k, d, rfl, e.symm⟩
    | succ i =>
      rcases outs_at h (by simpa using e) with ⟨k', d', h1, h2⟩ | ⟨k', d', o, h1, h2, h3⟩
      · exact .inl ⟨k', d', by simpa using h1, h2⟩
      · exact .inr ⟨k', d', o, by simpa using h1, h2, by rw [← h3]; congr 1; omega⟩
  | .io k d :: as, i0, outs, i, x, h, e => by
    simp only [outsOf] at h
    split at h
    · rename_i k' d' hs
      split at h
      · rename_i hk
        subst hk
        rw [Option.map_eq_some_iff] at h
        obtain ⟨os, h, rfl⟩ := h
        simp only [outSl] at e
        cases i with
        | zero => simp at e; exact .inr ⟨_, d, d', rfl, e.symm, hs⟩
        | succ i =>
          rcases outs_at h (by simpa using e) with ⟨k2, d2, h1, h2⟩ | ⟨k2, d2, o, h1, h2, h3⟩
          · exact .inl ⟨k2, d2, by simpa using h1, h2⟩
          · exact .inr ⟨k2, d2, o, by simpa using h1, h2, by rw [← h3]; congr 1; omega⟩
      · cases h
    · cases h
/-- behind a body: what its caller sees -/
theorem end_ok {as : List Arg} {vs : List V} {outs : List D} {n : Nat} (R : Rel K B Dz F (as.map Arg.slot) (vs.map some) H) (t : Tr M Dz F H Dz' F' H') (R' : Rel K B Dz' F' s' σ' H') (g : SigI (ioIdx as 0) (vs.map some ++ List.replicate n none) σ') (ho : outsOf s' as 0 = some outs) :
    ∃ F2 : Nat → List Addr, Tr (ioIdx as 0) Dz F H Dz' F2 H' ∧ Rel K B Dz' F2 (outSl as outs) (vs.map some) H' ∧ (∀ j a, a ∈ F2 j → a ∈ F' j) ∧ ∀ a, (H a = none ∨ ∃ i ∈ M, a ∈ F i) → H a = none ∨ ∃ i ∈ ioIdx as 0, a ∈ F i := by
  have hl : as.length = vs.length := by have := R.len; simpa using this
  have f0 : ∀ i, i ∉ ioIdx as 0 → F i = [] := fun i hi => by
    by_cases hlt : i < as.length
    · have q : (as.map Arg.slot)[i]? = some as[i].slot := by rw [List.getElem?_map, List.getElem?_eq_getElem hlt]; rfl
      have ok := R.sl i _ q
      cases ha : as[i] with
      | pv k d => rw [ha] at ok; exact ok.1
      | io k d => exact absurd (ioIdx_mem.mpr ⟨i, k, d, by omega, by rw [List.getElem?_eq_getElem hlt, ha]⟩) hi
    · exact R.out i (by rw [List.length_map]; omega)
  have inI : ∀ {a : Addr}, (∃ i ∈ M, a ∈ F i) → ∃ i ∈ ioIdx as 0, a ∈ F i := fun {a} ⟨i, _, m⟩ => by
    by_cases hi : i ∈ ioIdx as 0
    · exact ⟨i, hi, m⟩
    · rw [f0 i hi] at m; cases m
  have sub : ∀ j a, a ∈ (if j ∈ ioIdx as 0 then F' j else []) → a ∈ F' j ∧ j ∈ ioIdx as 0 := fun j a m => by
    split at m
    · exact ⟨m, by assumption⟩
    · cases m
  have keepB : ∀ a o, H a = some o → B a → H' a = some o := fun a o e m => t.keep a o e fun i _ mi => R.bz i a mi m
  have kz : ∀ a o, H a = some o → Dz a → H' a = some o := fun a o e m => t.keep a o e fun i _ mi => R.dz i a mi m
  refine ⟨fun j => if j ∈ ioIdx as 0 then F' j else [], ⟨t.dz, fun a z => (t.new a z).imp id (.imp id inI), fun a o e k => t.keep a o e fun i _ m => ?_, t.nm, fun i hi => ?_, fun i a hi m => ?_⟩, ⟨?_, fun i x e => ?_, fun i => ?_, fun i j a m1 m2 => R'.dj i j a (sub i a m1).1 (sub j a m2).1, fun i a m => R'.dz i a (sub i a m).1, fun i hi => ?_, fun i a m => R'.mt i a (sub i a m).1, R'.tk, fun i a m => R'.bz i a (sub i a m).1, R'.bt⟩, fun j a m => (sub j a m).1, fun a h => h.imp id inI⟩
  · by_cases hi : i ∈ ioIdx as 0
    · exact k i hi m
    · rw [f0 i hi] at m; cases m
  · simp only [if_neg hi]; exact (f0 i hi).symm
  · have m := (sub i a m).1
    by_cases hM : i ∈ M
    · exact (t.fn i a hM m).imp id inI
    · rw [t.fs i hM] at m
      exact .inr ⟨i, hi, m⟩
  · rw [outSl_len, List.length_map, hl]
  · have hlt : i < as.length := by
      have := (List.getElem?_eq_some_iff.mp e).1
      rwa [outSl_len] at this
    rcases outs_at ho e with ⟨k, d, h1, rfl⟩ | ⟨k, d, o, h1, rfl, h3⟩
    · have ni : i ∉ ioIdx as 0 := fun z => by
        obtain ⟨j, k', d', ej, h⟩ := ioIdx_mem.mp z
        obtain rfl : i = j := by omega
        rw [h1] at h; cases h
      have ok := R.sl i (.bo k d) (by rw [List.getElem?_map, h1]; rfl)
      obtain ⟨_, v, G, q1, q2, q3⟩ := ok
      exact ⟨if_neg ni, v, G, q1, q2.stay t.dz t.nm kz fun a o e m => keepB a o e (q3 a m), q3⟩
    · have hi : i ∈ ioIdx as 0 := ioIdx_mem.mpr ⟨i, k, d, by omega, h1⟩
      have ok := R'.sl i (.ow k o) (by rw [← h3]; congr 1; omega)
      obtain ⟨v, q1, q2⟩ := ok
      refine ⟨v, ?_, by simp only [if_pos hi]; exact q2⟩
      rw [g.2 i hi, List.getElem?_append_left (by rw [List.length_map]; omega)] at q1
      exact q1
  · by_cases hi : i ∈ ioIdx as 0
    · simp only [if_pos hi]; exact R'.nd i
    · simp only [if_neg hi]; exact .nil
  · rw [outSl_len] at hi
    refine if_neg fun z => ?_
    obtain ⟨j, k', d', ej, h⟩ := ioIdx_mem.mp z
    have := (List.getElem?_eq_some_iff.mp h).1
    omega
end
/-- the facts about the program's globals -/
structure Env (K : PySem.W.Frag) (mg : Str → Option Value) (gt : List (Str × D)) : Prop where
  glob : ∀ x d, (x, d) ∈ gt → ∃ v u, mg x = some u ∧ RelV v u ∧ ∀ H Dz, Rp K H Dz 0 d v []
  blt : ∀ x ∈ bltNames, mg x = none
/-- a def by its body -/
theorem def_ok {P : Program} {w : World} {K : PySem.W.Frag} {mg : Str → Option Value} {base : Heap} {x qual : Str} {st : Stmt} {f : Addr} {fd : FuncData} {ps : List Str} {k : Nat} {cf : Nat → List Arg → Rs} {T : Tab} {d : Def}
    (hpw : PWc.w = some w) (Fn : C8.Fun K x qual st f fd) (Sc : FnScope T.N ps (C8.fnScope st)) (hnp : d.np = ps.length) (hns : d.ns = T.N.length) (E0 : Env K mg T.gt)
    (hcall : ∀ (X : Cx), X.prog = P → X.w = w → X.K = K → X.mg = mg → X.base = base → Room k X.A → ∀ g y n, (g, y, n) ∈ T.ct → Can cf X g y n)
    (hfl : ∀ c f, (c, f) ∈ T.fl → ∀ C, ClsAt K c C → Cls K C ∧ NoAttr K C (Str.ofString f))
    (hmt : ∀ (X : Cx), X.prog = P → X.w = w → X.K = K → X.mg = mg → X.base = base → Room k X.A → ∀ c m g n, (c, m, g, n) ∈ T.mt → CanM cf X c m g n)
    (hcs : ∀ (X : Cx), X.prog = P → X.w = w → X.K = K → X.mg = mg → X.base = base → Room k X.A → ∀ c g n, (c, g, n) ∈ T.cs → CanC cf X c g n)
    (ag : agSs T (C8.fnScope st) d.body (C8.fnBody st) = true) : FnOk P w K mg base C8.CX0 (k + 1) f fd ps (spD K d.np (rsOf cf d)) := by
  refine C8.fn0 Fn Sc (fun vs H Q E h => by rw [h.1, hnp]) fun cdv A outer s H vs Q E hr hsp => ?_
  obtain ⟨hlen, B, Dz, F, as, k0, d0, outs, R, hrs, cont⟩ := hsp
  unfold rsOf at hrs
  split at hrs
  case isFalse => cases hrs
  rename_i hh
  have cty : Cty cf (cxOf C8.CX0 P w K mg base T.N qual (C8.fnScope st) f cdv A outer s H E).nox T (C8.fnScope st) :=
    ⟨rfl, rfl, Sc.nd, rfl, by have := hr.un; show (A.deeper (envOfC qual (C8.fnScope st) s.heap.objs.size f cdv)).units + 100 < cLine; omega, hpw, hcall _ rfl rfl rfl rfl rfl hr, E0.glob, E0.blt, hfl, hmt _ rfl rfl rfl rfl rfl hr, hcs _ rfl rfl rfl rfl rfl hr⟩
  refine ⟨_, agSs_ok (n := wn) cty (fun _ => rfl) PassesOwn.never (ioIdx as 0) ag, B, Dz, F, as.map Arg.slot ++ List.replicate (d.ns - d.np) .no, ?_, ?_⟩
  · have : start T.N vs = vs.map some ++ List.replicate (d.ns - d.np) none := by
      unfold L2.start
      rw [hlen, hns]
    rw [this]
    exact R.more
  · have hst : start T.N vs = vs.map some ++ List.replicate (d.ns - d.np) none := by
      unfold L2.start
      rw [hlen, hns]
    generalize evSs cf (ioIdx as 0) wn d.body (as.map Arg.slot ++ List.replicate (d.ns - d.np) .no) = out at hrs
    rw [hst]
    cases out with
    | nx s' =>
      simp only [ending] at hrs
      split at hrs
      case h_2 => cases hrs
      rename_i ds ho
      cases hrs
      intro Dz' F' H' σ' t R' g
      obtain ⟨F2, t2, R2, _, _⟩ := end_ok R t R' g ho
      exact cont Dz' F2 H' .non [] t2 R2 ⟨.non, .nil, fun _ m => by cases m⟩ fun _ m => by cases m
    | ret k1 d1 s' =>
      simp only [ending] at hrs
      split at hrs
      case h_2 => cases hrs
      rename_i ds ho
      cases hrs
      intro Dz' F' H' σ' v G t R' g rv fr
      obtain ⟨F2, t2, R2, sub, fr2⟩ := end_ok R t R' g ho
      exact cont Dz' F2 H' v G t2 R2 ⟨rv.1, rv.2.1, fun a m => ⟨(rv.2.2 a m).1, (rv.2.2 a m).2.1, fun j mj => (rv.2.2 a m).2.2 j (sub j a mj)⟩⟩ fun a m => fr2 a (fr a m)
    | brk s' => simp only [ending] at hrs; cases hrs
    | ct s' => simp only [ending] at hrs; cases hrs
    | no => simp only [ending] at hrs; cases hrs
end Ti
end

section
/-! all defs of a text; the law's end -/
namespace Ti
open PySem PySem.Spec PyProof.Rows L2

/-- a def's name, its written text, its small program, its slots, its parameters; its full name; its class and name there -/
structure Inf where
  x : Str
  st : Stmt
  d : Def
  N : List Str
  ps : List Str
  q : Str
  cl : Option (String × String)
def ctOf (l : List Inf) : List (Nat × Str × Nat) := l.zipIdx.flatMap fun p => match p.1.cl with
  | none => (List.range (p.1.d.df.length + 1)).map fun j => (p.2, p.1.x, p.1.d.np - j)
  | some _ => []
def mtOf (l : List Inf) : List (String × String × Nat × Nat) := l.zipIdx.flatMap fun p => match p.1.cl with
  | none => []
  | some (c, m) => (List.range (p.1.d.df.length + 1)).map fun j => (c, m, p.2, p.1.d.np - j)
def csOf (l : List Inf) : List (String × Nat × Nat) := l.zipIdx.flatMap fun p => match p.1.cl with
  | none => []
  | some (c, m) => if m = "__init__" then (List.range (p.1.d.df.length + 1)).map fun j => (c, p.2, p.1.d.np - j) else []
def Inf.tab (l : List Inf) (gt : List (Str × D)) (fl : List (String × String)) (i : Inf) : Tab := ⟨i.N, ctOf l, gt, fl, mtOf l, csOf l⟩
def Inf.okB (l : List Inf) (gt : List (Str × D)) (fl : List (String × String)) (i : Inf) : Bool :=
  C8.scC i.N i.ps (C8.fnScope i.st) && decide (i.d.np = i.ps.length) && decide (i.d.ns = i.N.length) && decide (i.d.df.length ≤ i.d.np) && agSs (i.tab l gt fl) (C8.fnScope i.st) i.d.body (C8.fnBody i.st)
/-- the plain law: with a script of these numbers True comes out -/
def Plain (l : List Inf) (n : Nat) (i : Inf) : Prop := ∀ ns : List Int, ns.length ≤ 63 → (∀ z ∈ ns, Builtin.Int.intBits z ≤ 1048576) → rsOf (evDef (l.map Inf.d) n) i.d [.pv 0 (.scr (ns.map D.int))] = .ok 0 (.bl true) []
/-- the law, handed its script -/
def spLaw (K : PySem.W.Frag) : Sp := fun vs H Q _ => ∃ (a : Addr) (ns : List Int), vs = [.ref a] ∧ SqL K H a (ns.map V.int) ∧ ns.length ≤ 63 ∧ (∀ z ∈ ns, Builtin.Int.intBits z ≤ 1048576) ∧ Only H ∧ ∀ H', Q (.bl true) H'
variable [PWc]
/-- how a def of a class stands there -/
structure InCl (K : PySem.W.Frag) (mg : Str → Option Value) (c m : String) (f : Addr) : Prop where
  ex : ∃ C, ClsAt K c C ∧ Cls K C ∧ Meth K C (Str.ofString m) f ∧ (m = "__init__" → mg (Str.ofString c) = some (.ref C) ∧ Mk K C f)
structure FnAt (K : PySem.W.Frag) (mg : Str → Option Value) (i : Inf) : Prop where
  ex : ∃ (f : Addr) (fd : FuncData), C8.Fun K i.x i.q i.st f fd ∧ (∀ j, j ≤ i.d.df.length → ∃ (ds : List Value) (dvs : List V), Binds K fd i.ps ds ∧ Vals dvs ds ∧ ∀ H Dz, Rps K H Dz 0 (i.d.df.drop (i.d.df.length - j)) dvs []) ∧ (i.cl = none → mg i.x = some (.ref f)) ∧ PySem.W.keepIn K (.ref f) = true ∧ ∀ c m, i.cl = some (c, m) → InCl K mg c m f
theorem FnAt.of0 {K : PySem.W.Frag} {mg : Str → Option Value} {i : Inf} {f : Addr} {fd : FuncData} (F : C8.Fun K i.x i.q i.st f fd) (b : Binds K fd i.ps []) (h : i.d.df = []) (hm : i.cl = none → mg i.x = some (.ref f)) (hk : PySem.W.keepIn K (.ref f) = true) (hc : ∀ c m, i.cl = some (c, m) → InCl K mg c m f) : FnAt K mg i :=
  ⟨f, fd, F, fun j _ => ⟨[], [], b, .nil, fun _ _ => by rw [h]; simp; exact .nil⟩, hm, hk, hc⟩
/-- one default -/
theorem FnAt.of1 {K : PySem.W.Frag} {mg : Str → Option Value} {i : Inf} {f : Addr} {fd : FuncData} {x0 : D} {v0 : V} (F : C8.Fun K i.x i.q i.st f fd) (h : i.d.df = [x0]) (b0 : ∃ ds, Vals ([v0].drop 1) ds ∧ Binds K fd i.ps ds) (b1 : ∃ ds, Vals ([v0].drop 0) ds ∧ Binds K fd i.ps ds)
    (r : ∀ H Dz, Rp K H Dz 0 x0 v0 []) (hm : i.cl = none → mg i.x = some (.ref f)) (hk : PySem.W.keepIn K (.ref f) = true) (hc : ∀ c m, i.cl = some (c, m) → InCl K mg c m f) : FnAt K mg i :=
  ⟨f, fd, F, fun j hj => by
    rw [h] at hj ⊢
    have : j = 0 ∨ j = 1 := by simp at hj; omega
    rcases this with rfl | rfl
    · obtain ⟨ds, h1, h2⟩ := b0
      exact ⟨ds, _, h2, h1, fun _ _ => .nil⟩
    · obtain ⟨ds, h1, h2⟩ := b1
      exact ⟨ds, _, h2, h1, fun H Dz => .cons (F := []) (G := []) (r H Dz) .nil⟩, hm, hk, hc⟩
theorem ct_mem {l : List Inf} {g n : Nat} {y : Str} (h : (g, y, n) ∈ ctOf l) : ∃ i j, l[g]? = some i ∧ i.cl = none ∧ y = i.x ∧ j ≤ i.d.df.length ∧ n = i.d.np - j := by
  unfold ctOf at h
  rw [List.mem_flatMap] at h
  obtain ⟨⟨i, k⟩, hm, e⟩ := h
  split at e
  case h_2 => cases e
  rename_i hc
  rw [List.mem_map] at e
  obtain ⟨j, hj, e⟩ := e
  simp only [Prod.mk.injEq] at e
  obtain ⟨rfl, rfl, rfl⟩ := e
  have := List.mem_zipIdx_iff_getElem?.mp hm
  exact ⟨i, j, by simpa using this, hc, rfl, Nat.le_of_lt_succ (List.mem_range.mp hj), rfl⟩
theorem mt_mem {l : List Inf} {g n : Nat} {c m : String} (h : (c, m, g, n) ∈ mtOf l) : ∃ i j, l[g]? = some i ∧ i.cl = some (c, m) ∧ j ≤ i.d.df.length ∧ n = i.d.np - j := by
  unfold mtOf at h
  rw [List.mem_flatMap] at h
  obtain ⟨⟨i, k⟩, hm, e⟩ := h
  split at e
  case h_1 => cases e
  rename_i c' m' hc
  rw [List.mem_map] at e
  obtain ⟨j, hj, e⟩ := e
  simp only [Prod.mk.injEq] at e
  obtain ⟨rfl, rfl, rfl, rfl⟩ := e
  have := List.mem_zipIdx_iff_getElem?.mp hm
  exact ⟨i, j, by simpa using this, hc, Nat.le_of_lt_succ (List.mem_range.mp hj), rfl⟩
theorem cs_mem {l : List Inf} {g n : Nat} {c : String} (h : (c, g, n) ∈ csOf l) : ∃ i j, l[g]? = some i ∧ i.cl = some (c, "__init__") ∧ j ≤ i.d.df.length ∧ n = i.d.np - j := by
  unfold csOf at h
  rw [List.mem_flatMap] at h
  obtain ⟨⟨i, k⟩, hm, e⟩ := h
  split at e
  case h_1 => cases e
  rename_i c' m' hc
  split at e
  case isFalse => cases e
  rename_i he
  subst he
  rw [List.mem_map] at e
  obtain ⟨j, hj, e⟩ := e
  simp only [Prod.mk.injEq] at e
  obtain ⟨rfl, rfl, rfl⟩ := e
  have := List.mem_zipIdx_iff_getElem?.mp hm
  exact ⟨i, j, by simpa using this, hc, Nat.le_of_lt_succ (List.mem_range.mp hj), rfl⟩
theorem ev_eq {l : List Inf} {n g j : Nat} {i : Inf} (hg : l[g]? = some i) {as : List Arg} (h : as.length = i.d.np - j) (hj : j ≤ i.d.df.length) (hd : i.d.df.length ≤ i.d.np) : evDef (l.map Inf.d) (n + 1) g as = rsOf (evDef (l.map Inf.d) n) i.d (as ++ (i.d.df.drop (i.d.df.length - j)).map (Arg.pv 0)) := by
  have e : (l.map Inf.d)[g]? = some i.d := by rw [List.getElem?_map, hg]; rfl
  show (match (l.map Inf.d)[g]? with
    | none => Rs.no
    | some f => rsOf (evDef (l.map Inf.d) n) f (as ++ (f.rest as.length).map (Arg.pv 0))) = _
  rw [e, h]
  simp only
  unfold Def.rest
  have : i.d.np - (i.d.np - j) = j := by omega
  rw [this]
/-- the fields of classes -/
def FlAt (K : PySem.W.Frag) (fl : List (String × String)) : Prop := ∀ c f, (c, f) ∈ fl → ∀ C, ClsAt K c C → Cls K C ∧ NoAttr K C (Str.ofString f)
/-- a callee, at a level -/
structure CalAt (P : Program) (w : World) (K : PySem.W.Frag) (mg : Str → Option Value) (base : Heap) (l : List Inf) (cf : Nat → List Arg → Rs) (lv : Nat) : Prop where
  ex : ∀ (i : Inf) (g j : Nat), l[g]? = some i → j ≤ i.d.df.length → ∃ (f : Addr) (fd : FuncData) (ds : List Value) (dvs : List V) (dfs : List D) (rs : List Arg → Rs), FnOk P w K mg base C8.CX0 lv f fd i.ps (spD K i.d.np rs) ∧
    Binds K fd i.ps ds ∧ Vals dvs ds ∧ (∀ as : List Arg, as.length = i.d.np - j → cf g as = rs (as ++ dfs.map (Arg.pv 0))) ∧ i.d.np - j + dfs.length = i.d.np ∧ (∀ H Dz, Rps K H Dz 0 dfs dvs []) ∧
    (i.cl = none → mg i.x = some (.ref f)) ∧ PySem.W.keepIn K (.ref f) = true ∧ ∀ c m, i.cl = some (c, m) → InCl K mg c m f
section
variable {P : Program} {w : World} {K : PySem.W.Frag} {mg : Str → Option Value} {base : Heap} {l : List Inf} {gt : List (Str × D)} {fl : List (String × String)}
theorem okB_df {i : Inf} (h : Inf.okB l gt fl i = true) : i.d.df.length ≤ i.d.np := by
  unfold Inf.okB at h
  simp only [Bool.and_eq_true, decide_eq_true_eq] at h
  exact h.1.2
theorem def_all {cf : Nat → List Arg → Rs} {lv : Nat} (hpw : PWc.w = some w) (hB : ∀ i ∈ l, Inf.okB l gt fl i = true) (hC : CalAt P w K mg base l cf lv) (E0 : Env K mg gt) (hfl : FlAt K fl) (i : Inf) (hi : i ∈ l) (f : Addr) (fd : FuncData) (Fn : C8.Fun K i.x i.q i.st f fd) :
    FnOk P w K mg base C8.CX0 (lv + 2) f fd i.ps (spD K i.d.np (rsOf cf i.d)) := by
  have hb := hB i hi
  unfold Inf.okB at hb
  simp only [Bool.and_eq_true, decide_eq_true_eq] at hb
  obtain ⟨⟨⟨⟨h1, h2⟩, h3⟩, _⟩, h4⟩ := hb
  have can : ∀ (X : Cx), X.prog = P → X.w = w → X.K = K → X.mg = mg → X.base = base → Room (lv + 1) X.A → ∀ (j : Inf) (g jj : Nat), l[g]? = some j → jj ≤ j.d.df.length →
      ∃ (f' : Addr), CanF cf X g f' (j.d.np - jj) ∧ PySem.W.keepIn X.K (.ref f') = true ∧ (j.cl = none → X.mg j.x = some (.ref f')) ∧ (j.cl = none → Can cf X g j.x (j.d.np - jj)) ∧ ∀ c m, j.cl = some (c, m) → InCl X.K X.mg c m f' := by
    intro X e1 e2 e3 e4 e5 hr j g jj hj hjj
    subst e1 e2 e3 e4 e5
    obtain ⟨f', fd', ds, dvs, dfs, rs, q1, q2, q3, q4, q5, q6, q7, q8, q9⟩ := hC.ex j g jj hj hjj
    exact ⟨f', ⟨lv, fd', j.ps, ds, dvs, dfs, rs, j.d.np, q1, hr.mono (by omega), hr, q2, q3, q4, q5, q6⟩, q8, q7, fun hc => ⟨lv, f', fd', j.ps, ds, dvs, dfs, rs, j.d.np, q1, hr.mono (by omega), q7 hc, q8, q2, q3, q4, q5, q6⟩, q9⟩
  refine def_ok (T := i.tab l gt fl) (k := lv + 1) hpw Fn (C8.fnScope_by h1) h2 h3 E0 (fun X e1 e2 e3 e4 e5 hr g y m hm => ?_) hfl (fun X e1 e2 e3 e4 e5 hr c m g n hm => ?_) (fun X e1 e2 e3 e4 e5 hr c g n hm => ?_) h4
  · obtain ⟨j, jj, hj, hc, rfl, hjj, rfl⟩ := ct_mem hm
    obtain ⟨f', _, _, _, q, _⟩ := can X e1 e2 e3 e4 e5 hr j g jj hj hjj
    exact q hc
  · obtain ⟨j, jj, hj, hc, hjj, rfl⟩ := mt_mem hm
    obtain ⟨f', q1, _, _, _, q⟩ := can X e1 e2 e3 e4 e5 hr j g jj hj hjj
    obtain ⟨C, h1, h2, h3, _⟩ := (q c m hc).ex
    exact ⟨C, f', h1, h2, h3, q1⟩
  · obtain ⟨j, jj, hj, hc, hjj, rfl⟩ := cs_mem hm
    obtain ⟨f', q1, _, _, _, q⟩ := can X e1 e2 e3 e4 e5 hr j g jj hj hjj
    obtain ⟨C, h1, h2, h3, h4⟩ := (q c _ hc).ex
    obtain ⟨h5, h6⟩ := h4 rfl
    exact ⟨C, f', h1, h5, h6, q1⟩
theorem all_ok (hpw : PWc.w = some w) (hB : ∀ i ∈ l, Inf.okB l gt fl i = true) (hF : ∀ i ∈ l, FnAt K mg i) (E0 : Env K mg gt) (hfl : FlAt K fl) :
    ∀ (n : Nat) (i : Inf), i ∈ l → ∀ (f : Addr) (fd : FuncData), C8.Fun K i.x i.q i.st f fd → FnOk P w K mg base C8.CX0 (2 * n + 2) f fd i.ps (spD K i.d.np (rsOf (evDef (l.map Inf.d) n) i.d)) := by
  intro n
  induction n with
  | zero =>
    refine def_all (lv := 0) hpw hB ⟨fun j g jj hj hjj => ?_⟩ E0 hfl
    have hjl := List.mem_of_getElem? hj
    have hdl := okB_df (hB j hjl)
    obtain ⟨f', fd', q1, q2, q3, q4, q7⟩ := (hF j hjl).ex
    obtain ⟨ds, dvs, q2, q5, q6⟩ := q2 jj hjj
    refine ⟨f', fd', ds, dvs, j.d.df.drop (j.d.df.length - jj), fun _ => .no, ⟨fun vs H Q E h => ?_, fun A outer s H args us vs Q E _ _ _ _ h => ?_⟩, q2, q5, fun as _ => rfl, by rw [List.length_drop]; omega, q6, q3, q4, q7⟩
    · obtain ⟨_, _, _, _, _, _, _, _, _, h, _⟩ := h; cases h
    · obtain ⟨_, _, _, _, _, _, _, _, _, h, _⟩ := h; cases h
  | succ n ih =>
    refine def_all (lv := 2 * n + 2) hpw hB ⟨fun j g jj hj hjj => ?_⟩ E0 hfl
    have hjl := List.mem_of_getElem? hj
    have hdl := okB_df (hB j hjl)
    obtain ⟨f', fd', q1, q2, q3, q4, q7⟩ := (hF j hjl).ex
    obtain ⟨ds, dvs, q2, q5, q6⟩ := q2 jj hjj
    exact ⟨f', fd', ds, dvs, j.d.df.drop (j.d.df.length - jj), rsOf (evDef (l.map Inf.d) n) j.d, ih j hjl f' fd' q1, q2, q5, fun as ha => ev_eq hj ha hjj hdl, by rw [List.length_drop]; omega, q6, q3, q4, q7⟩
end
theorem ints_rps {K : PySem.W.Frag} {H : Hp} {Dz : Addr → Prop} : ∀ ns : List Int, Rps K H Dz 0 (ns.map D.int) (ns.map V.int) []
  | [] => .nil
  | n :: ns => .cons (F := []) (G := []) (.int n) (ints_rps ns)
theorem law_ok {P : Program} {w : World} {K : PySem.W.Frag} {mg : Str → Option Value} {base : Heap} {l : List Inf} {gt : List (Str × D)} {fl : List (String × String)} (hpw : PWc.w = some w) (hB : ∀ i ∈ l, Inf.okB l gt fl i = true) (hF : ∀ i ∈ l, FnAt K mg i) (E0 : Env K mg gt) (hfl : FlAt K fl) {n : Nat} {i : Inf} (hi : i ∈ l) (hp : i.d.np = 1) (pl : Plain l n i)
    {f : Addr} {fd : FuncData} (Fn : C8.Fun K i.x i.q i.st f fd) : FnOk P w K mg base C8.CX0 (2 * n + 2) f fd i.ps (spLaw K) := by
  refine (all_ok hpw hB hF E0 hfl n i hi f fd Fn).imp fun vs H Q E h => ?_
  obtain ⟨a, ns, rfl, hS, hl, hb, hO, q⟩ := h
  refine ⟨by rw [hp]; rfl, fun _ => False, fun _ => False, fun _ => [], [.pv 0 (.scr (ns.map D.int))], 0, .bl true, [], ?_, pl ns hl hb, fun Dz' F' H' v G t R o g => ?_⟩
  · refine ⟨rfl, fun j x e => ?_, fun _ => .nil, fun _ _ _ m => (by cases m), fun _ _ m => (by cases m), fun _ _ => rfl, fun _ _ m => (by cases m), fun _ z => z.elim, fun _ _ m => (by cases m), fun _ z => z.elim⟩
    cases j with
    | zero =>
      simp only [List.map_cons, List.getElem?_cons_zero, Option.some.injEq] at e
      subst e
      exact ⟨rfl, .ref a, [], rfl, .scr (SqS.of hS hO) (ints_rps ns), fun _ m => by cases m⟩
    | succ j => simp at e
  · have := o.1
    cases this
    exact q H'
end Ti
end

section
/-! the evaluator's equations, at a written row of slots -/
namespace Ti
variable (cf : Nat → List Ti.Arg → Rs) (io : List Nat) (n : Nat) (x : Slot) (l : Sl)
@[simp] theorem cE_con (d : D) : evE cf io (.con d) (x :: l) = .ok (.ow 0 d) (x :: l) := by first | (rw [evE]; done) | (rw [evE]; rfl)
@[simp] theorem cE_gl (x_ : String) (d : D) : evE cf io (.gl x_ d) (x :: l) = .ok (.ow 0 d) (x :: l) := by first | (rw [evE]; done) | (rw [evE]; rfl)
@[simp] theorem cE_var (i : Nat) : evE cf io (.var i) (x :: l) = Ev.of (((x :: l)[i]?.getD .no).rv i) (x :: l) := by first | (rw [evE]; done) | (rw [evE]; rfl)
@[simp] theorem cE_mv (i : Nat) : evE cf io (.mv i) (x :: l) = match (x :: l)[i]? with
    | some (.ow k d) => if io.contains i then .no else .ok (.ow k d) ((x :: l).set i .no)
    | _ => .no := by first | (rw [evE]; done) | (rw [evE]; rfl)
@[simp] theorem cE_gv (i : Nat) : evE cf io (.gv i) (x :: l) = match (x :: l)[i]? with
    | some (.ow _ d) => if io.contains i then .no else .ok (.ow 0 d) ((x :: l).set i (.bo 0 d))
    | _ => .no := by first | (rw [evE]; done) | (rw [evE]; rfl)
@[simp] theorem cE_bin (o : Bop) (a : E) (b : E) : evE cf io (.bin o a b) (x :: l) = (evE cf io a (x :: l)).bind fun r s1 => if clash r.src (E.muts b) then .no else (evE cf io b s1).bind fun p s2 =>
      match r.sh, p.sh with
      | some x, some y => Ev.rk (binD o x y) s2
      | _, _ => .no := by first | (rw [evE]; done) | (rw [evE]; rfl)
@[simp] theorem cE_neg (a : E) : evE cf io (.neg a) (x :: l) = (evE cf io a (x :: l)).bind fun r s1 => match r.d with
      | .int i => .ok (.ow 0 (.int (-i))) s1
      | _ => .no := by first | (rw [evE]; done) | (rw [evE]; rfl)
@[simp] theorem cE_cmp (o : Cop) (a : E) (b : E) : evE cf io (.cmp o a b) (x :: l) = (evE cf io a (x :: l)).bind fun r s1 => if clash r.src (E.muts b) then .no else (evE cf io b s1).bind fun p s2 => Ev.r0 ((cmpD o r.d p.d).map .bl) s2 := by first | (rw [evE]; done) | (rw [evE]; rfl)
@[simp] theorem cE_chn (o1 : Cop) (o2 : Cop) (a : E) (b : E) (c : E) : evE cf io (.chn o1 o2 a b c) (x :: l) = (evE cf io a (x :: l)).bind fun r s1 => if clash r.src (E.muts b) then .no else (evE cf io b s1).bind fun p s2 =>
      match cmpD o1 r.d p.d with
      | some true => if clash p.src (E.muts c) then .no else (evE cf io c s2).bind fun t s3 => Ev.r0 ((cmpD o2 p.d t.d).map .bl) s3
      | some false => .ok (.ow 0 (.bl false)) s2
      | none => .no := by first | (rw [evE]; done) | (rw [evE]; rfl)
@[simp] theorem cE_and (a : E) (b : E) : evE cf io (.and a b) (x :: l) = (evE cf io a (x :: l)).bind fun r s1 => bCond r s1 fun c => if c then (evE cf io b s1).bind fun p s2 => bCond p s2 fun c => .ok (.ow 0 (.bl c)) s2 else .ok (.ow 0 (.bl false)) s1 := by first | (rw [evE]; done) | (rw [evE]; rfl)
@[simp] theorem cE_or (a : E) (b : E) : evE cf io (.or a b) (x :: l) = (evE cf io a (x :: l)).bind fun r s1 => bCond r s1 fun c => if c then .ok (.ow 0 (.bl true)) s1 else (evE cf io b s1).bind fun p s2 => bCond p s2 fun c => .ok (.ow 0 (.bl c)) s2 := by first | (rw [evE]; done) | (rw [evE]; rfl)
@[simp] theorem cE_not (a : E) : evE cf io (.not a) (x :: l) = (evE cf io a (x :: l)).bind fun r s1 => bCond r s1 fun c => .ok (.ow 0 (.bl (!c))) s1 := by first | (rw [evE]; done) | (rw [evE]; rfl)
@[simp] theorem cE_ite (c : E) (a : E) (b : E) : evE cf io (.ite c a b) (x :: l) = (evE cf io c (x :: l)).bind fun r s1 => bCond r s1 fun c => if c then evE cf io a s1 else evE cf io b s1 := by first | (rw [evE]; done) | (rw [evE]; rfl)
@[simp] theorem cE_tup (k : Nat) (es : List E) : evE cf io (.tup k es) (x :: l) = (evAs cf io es (x :: l)).bind fun as s1 => match (AV.rvs as).bind (fits (k - 1)) with
      | some ds => .ok (.ow k (.tup ds)) s1
      | none => .no := by first | (rw [evE]; done) | (rw [evE]; rfl)
@[simp] theorem cE_lst (k : Nat) (es : List E) : evE cf io (.lst k es) (x :: l) = (evAs cf io es (x :: l)).bind fun as s1 => match (AV.rvs as).bind (fits (k - 1)) with
      | some ds => if 1 ≤ k then .ok (.ow k (.lst ds)) s1 else .no
      | none => .no := by first | (rw [evE]; done) | (rw [evE]; rfl)
@[simp] theorem cE_dct (ks : List E) (vs : List E) : evE cf io (.dct ks vs) (x :: l) = (evAs cf io ks (x :: l)).bind fun as s1 => (evAs cf io vs s1).bind fun bs s2 => match (AV.rvs as).bind (fits 0), (AV.rvs bs).bind (fits 0) with
      | some xs, some ys => match mkDct xs ys with
        | some kvs => .ok (.ow 1 (.dct (kvs.foldl (fun acc p => putD acc p.1 p.2) []))) s2
        | none => .no
      | _, _ => .no := by first | (rw [evE]; done) | (rw [evE]; rfl)
@[simp] theorem cE_idx (a : E) (b : E) : evE cf io (.idx a b) (x :: l) = (evE cf io a (x :: l)).bind fun r s1 => if clash r.src (E.muts b) then .no else (evE cf io b s1).bind fun p s2 => match idxD r.d p.d with
      | some d => .ok (r.el d) s2
      | none => .no := by first | (rw [evE]; done) | (rw [evE]; rfl)
@[simp] theorem cE_slc (a : E) (lo : Option E) (hi : Option E) : evE cf io (.slc a lo hi) (x :: l) = (evE cf io a (x :: l)).bind fun r s1 => if clash r.src (E.mutso lo ++ E.mutso hi) then .no else (evO cf io lo s1).bind fun l s2 => (evO cf io hi s2).bind fun h s3 => match r.sh with
      | some d => Ev.rk (slcD d l h) s3
      | none => .no := by first | (rw [evE]; done) | (rw [evE]; rfl)
@[simp] theorem cE_enm (a : E) : evE cf io (.enm a) (x :: l) = (evE cf io a (x :: l)).bind fun r s1 => match r with
      | .ow _ (.lst xs) => .ok (.ow 1 (.lst (enumD xs))) s1
      | _ => .no := by first | (rw [evE]; done) | (rw [evE]; rfl)
@[simp] theorem cE_srt (a : E) : evE cf io (.srt a) (x :: l) = (evE cf io a (x :: l)).bind fun r s1 => match r with
      | .ow (k + 1) (.lst xs) => if sortOk xs then .ok (.ow (k + 1) (.lst (sortD xs))) s1 else .no
      | _ => .no := by first | (rw [evE]; done) | (rw [evE]; rfl)
@[simp] theorem cE_gix (q : String) (zs : List String) (a : E) : evE cf io (.gix q zs a) (x :: l) = (evE cf io a (x :: l)).bind fun r s1 => match r.d with
      | .str z => match zs.findIdx? fun y => y == z with
        | some j => .ok (.ow 0 (.int j)) s1
        | none => .no
      | _ => .no := by first | (rw [evE]; done) | (rw [evE]; rfl)
@[simp] theorem cE_dcs (k : Nat) (kvs : List (String × Option D)) : evE cf io (.dcs k kvs) (x :: l) = if 1 ≤ k ∧ dcsOk k kvs = true then .ok (.ow k (.dct (kvs.map fun p => (.str p.1, (p.2).getD (.lst []))))) (x :: l) else .no := by first | (rw [evE]; done) | (rw [evE]; rfl)
@[simp] theorem cE_rev (a : E) : evE cf io (.rev a) (x :: l) = (evE cf io a (x :: l)).bind fun r s1 => match r.sh with
      | some d => Ev.rk (revD d) s1
      | none => .no := by first | (rw [evE]; done) | (rw [evE]; rfl)
@[simp] theorem cE_fld (c : String) (a : E) (f : String) : evE cf io (.fld c a f) (x :: l) = (evE cf io a (x :: l)).bind fun r s1 => match fldD c f r.d with
      | some d => .ok (r.elS d) s1
      | none => .no := by first | (rw [evE]; done) | (rw [evE]; rfl)
@[simp] theorem elS_ow (k : Nat) (d e : D) : (RV.ow k d).elS e = .ow (if 2 ≤ k - 1 ∧ deep 1 (k - 1) e = true then 1 else k - 1) e := id rfl
@[simp] theorem elS_bo (src : List Nat) (k : Nat) (d e : D) : (RV.bo src k d).elS e = if k ≤ 1 ∨ solid (k - 1) e = true then .ow 0 e else .bo src (if deep 1 (k - 1) e = true then 1 else k - 1) e := id rfl
@[simp] theorem cE_meth (c m : String) (g : Nat) (es : List E) : evE cf io (.meth c m g es) (x :: l) = (evAs cf io es (x :: l)).bind fun as s1 => if selfAv c m (x :: l) as = true then match AV.args s1 as with
      | some vs => if (AV.ios as).Nodup ∧ clash (AV.srcs as) (AV.ios as) = false then match cf g vs with
          | .ok k d outs => match setOuts s1 (AV.ios as) outs with
            | some s2 => .ok (.ow k d) s2
            | none => .no
          | .no => .no
        else .no
      | none => .no
    else .no := by first | (rw [evE]; done) | (rw [evE]; rfl)
@[simp] theorem cE_mk (k : Nat) (c : String) (g : Nat) (es : List E) : evE cf io (.mk k c g es) (x :: l) = (evAs cf io es (x :: l)).bind fun as s1 => match AV.rvs as with
      | some rs => if 1 ≤ k ∧ clash (AV.srcs as) [s1.length] = false then match cf g (.io k (.ins c []) :: rs.map fun r => .pv r.k r.d) with
          | .ok _ .non [d] => .ok (.ow k d) s1
          | _ => .no
        else .no
      | none => .no := by first | (rw [evE]; done) | (rw [evE]; rfl)
@[simp] theorem cE_call (g : Nat) (es : List E) : evE cf io (.call g es) (x :: l) = (evAs cf io es (x :: l)).bind fun as s1 => match AV.args s1 as with
      | some vs => if (AV.ios as).Nodup ∧ clash (AV.srcs as) (AV.ios as) = false then match cf g vs with
          | .ok k d outs => match setOuts s1 (AV.ios as) outs with
            | some s2 => .ok (.ow k d) s2
            | none => .no
          | .no => .no
        else .no
      | none => .no := by first | (rw [evE]; done) | (rw [evE]; rfl)
@[simp] theorem cE_bi (b : Bi) (es : List E) : evE cf io (.bi b es) (x :: l) = (evAs cf io es (x :: l)).bind fun as s1 => match AV.rvs as with
      | some rs => match (if b.shares then shs rs else some (rs.map RV.d)) with
        | some ds => Ev.rk (biD b ds) s1
        | none => .no
      | none => .no := by first | (rw [evE]; done) | (rw [evE]; rfl)
@[simp] theorem cE_isi (a : E) (ts : List Ty) : evE cf io (.isi a ts) (x :: l) = (evE cf io a (x :: l)).bind fun r s1 => match r.d with
      | .scr _ => .no
      | .ins _ _ => .no
      | .dcn _ => .no
      | d => .ok (.ow 0 (.bl (ts.any fun t => isTy t d))) s1 := by first | (rw [evE]; done) | (rw [evE]; rfl)
@[simp] theorem cE_bm (m : Bm) (o : E) (es : List E) : evE cf io (.bm m o es) (x :: l) = (evE cf io o (x :: l)).bind fun r s1 => if clash r.src (E.mutss es) then .no else (evAs cf io es s1).bind fun as s2 => match r.sh, (AV.rvs as).bind shs with
      | some d, some ds => Ev.rk (bmD m d ds) s2
      | _, _ => .no := by first | (rw [evE]; done) | (rw [evE]; rfl)
@[simp] theorem cE_rng (es : List E) : evE cf io (.rng es) (x :: l) = (evAs cf io es (x :: l)).bind fun as s1 => match (AV.rvs as).bind shs with
      | some ds => match rngD ds with
        | some xs => .ok (.ow 1 (.lst xs)) s1
        | none => .no
      | none => .no := by first | (rw [evE]; done) | (rw [evE]; rfl)
@[simp] theorem cS_asg (i : Nat) (k : Nat) (e : E) : evS cf io n (.asg i k e) (x :: l) = match evE cf io e (x :: l) with
    | .ok r s1 => if io.contains i ∨ s1.length ≤ i then .no else match r with
      | .ow _ _ => match r.fit k with
        | some d => .nx (s1.set i (if k = 0 then .bo 0 d else .ow k d))
        | none => .no
      | .bo [] j d => if k = 0 then .nx (s1.set i (.bo j d)) else .no
      | _ => .no
    | .no => .no := by first | (rw [evS]; done) | (rw [evS]; rfl)
@[simp] theorem cS_unp (t : Tg) (e : E) : evS cf io n (.unp t e) (x :: l) = match evE cf io e (x :: l) with
    | .ok r s1 => if okTg io t then match r.fit 0 with
        | some d => match Tg.put t d s1 with
          | some s2 => .nx s2
          | none => .no
        | none => .no
      else .no
    | .no => .no := by first | (rw [evS]; done) | (rw [evS]; rfl)
@[simp] theorem cS_put (i : Nat) (p : List E) (a : E) (e : E) : evS cf io n (.put i p a e) (x :: l) = match evE cf io e (x :: l) with
    | .ok r s1 => match evPath cf io p s1 with
      | some ks => if clash r.src (E.muts a) = true ∨ (E.muts a).contains i = true then .no else match evE cf io a s1 with
        | .ok q s2 => chg s2 i ks (putF q.d r)
        | .no => .no
      | none => .no
    | .no => .no := by first | (rw [evS]; done) | (rw [evS]; rfl)
@[simp] theorem cS_app (i : Nat) (p : List E) (e : E) : evS cf io n (.app i p e) (x :: l) = match evPath cf io p (x :: l) with
    | some ks => if (E.muts e).contains i then .no else match evE cf io e (x :: l) with
      | .ok r s1 => chg s1 i ks (appF r)
      | .no => .no
    | none => .no := by first | (rw [evS]; done) | (rw [evS]; rfl)
@[simp] theorem cS_fset (i : Nat) (c f : String) (e : E) : evS cf io n (.fset i c f e) (x :: l) = match evE cf io e (x :: l) with
    | .ok r s1 => chg s1 i [] (fsetF c f r)
    | .no => .no := by first | (rw [evS]; done) | (rw [evS]; rfl)
@[simp] theorem cS_extm (i : Nat) (p : List E) (e : E) : evS cf io n (.extm i p e) (x :: l) = match evPath cf io p (x :: l) with
    | some ks => if (E.muts e).contains i then .no else match evE cf io e (x :: l) with
      | .ok r s1 => chg s1 i ks (extM r)
      | .no => .no
    | none => .no := by first | (rw [evS]; done) | (rw [evS]; rfl)
@[simp] theorem cS_ext (i : Nat) (p : List E) (e : E) : evS cf io n (.ext i p e) (x :: l) = match evPath cf io p (x :: l) with
    | some ks => if (E.muts e).contains i then .no else match evE cf io e (x :: l) with
      | .ok r s1 => match r.d with
        | .lst ys => match (r.walk [i] (some ys)) with
          | some ys => chg s1 i ks (extF ys)
          | none => .no
        | _ => .no
      | .no => .no
    | none => .no := by first | (rw [evS]; done) | (rw [evS]; rfl)
@[simp] theorem cS_ins (i : Nat) (p : List E) (a : E) (b : E) : evS cf io n (.ins i p a b) (x :: l) = match evPath cf io p (x :: l) with
    | some ks => if (E.muts a ++ E.muts b).contains i then .no else match evAs cf io [a, b] (x :: l) with
      | .ok [.rv q, .rv r] s2 => match q.d with
        | .int j => chg s2 i ks (insF j r)
        | _ => .no
      | _ => .no
    | none => .no := by first | (rw [evS]; done) | (rw [evS]; rfl)
@[simp] theorem cS_pop (i : Nat) (p : List E) (a : Option E) : evS cf io n (.pop i p a) (x :: l) = match evPath cf io p (x :: l) with
    | some ks => match a with
      | none => chg (x :: l) i ks (popF (-1))
      | some a => if (E.muts a).contains i then .no else match evE cf io a (x :: l) with
        | .ok q s1 => match q.d with
          | .int j => chg s1 i ks (popF j)
          | _ => .no
        | .no => .no
    | none => .no := by first | (rw [evS]; done) | (rw [evS]; rfl)
@[simp] theorem cS_ex (e : E) : evS cf io n (.ex e) (x :: l) = match evE cf io e (x :: l) with
    | .ok _ s1 => .nx s1
    | .no => .no := by first | (rw [evS]; done) | (rw [evS]; rfl)
@[simp] theorem cS_ite (c : E) (a : List S) (b : List S) : evS cf io n (.ite c a b) (x :: l) = match evE cf io c (x :: l) with
    | .ok r s1 => match r.d with
      | .bl true => evSs cf io n a s1
      | .bl false => evSs cf io n b s1
      | _ => .no
    | .no => .no := by first | (rw [evS]; done) | (rw [evS]; rfl)
@[simp] theorem cS_fom (i j : Nat) (b : List S) : evS cf io n (.fom i j b) (x :: l) = if i = j ∨ io.contains i = true ∨ io.contains j = true ∨ (x :: l).length ≤ i then .no else match (x :: l)[j]? with
    | some (.ow (_ + 2) (.lst xs)) => fmGo i j (evSs cf (i :: j :: io) n b) xs.length 0 ((x :: l).set i .no)
    | _ => .no := by first | (rw [evS]; done) | (rw [evS]; rfl)
@[simp] theorem cS_ret (e : E) : evS cf io n (.ret e) (x :: l) = match evE cf io e (x :: l) with
    | .ok r s1 => evRet r s1
    | .no => .no := by first | (rw [evS]; done) | (rw [evS]; rfl)
@[simp] theorem cS_retN  : evS cf io n (.retN ) (x :: l) = .ret 0 .non (x :: l) := by first | (rw [evS]; done) | (rw [evS]; rfl)
@[simp] theorem cS_pass  : evS cf io n (.pass ) (x :: l) = .nx (x :: l) := by first | (rw [evS]; done) | (rw [evS]; rfl)
@[simp] theorem cS_brk  : evS cf io n (.brk ) (x :: l) = .brk (x :: l) := by first | (rw [evS]; done) | (rw [evS]; rfl)
@[simp] theorem cS_ct  : evS cf io n (.ct ) (x :: l) = .ct (x :: l) := by first | (rw [evS]; done) | (rw [evS]; rfl)
@[simp] theorem cS_never : evS cf io n .never (x :: l) = .no := by rw [evS]
@[simp] theorem cSs_nil : evSs cf io n [] (x :: l) = .nx (x :: l) := by rw [evSs]
@[simp] theorem cSs_cons (s : S) (ss : List S) : evSs cf io n (s :: ss) (x :: l) = (evS cf io n s (x :: l)).bind (evSs cf io n ss) := by rw [evSs]
@[simp] theorem cAs_nil : evAs cf io [] (x :: l) = .ok [] (x :: l) := by rw [evAs]
theorem cAs_cons (e : E) (es : List E) (h : isIo e = none) : evAs cf io (e :: es) (x :: l) = (evE cf io e (x :: l)).bind fun r s1 => if clash r.src (E.mutss es) then .no else (evAs cf io es s1).bind fun as s2 => .ok (.rv r :: as) s2 := by
  rw [evAs]
  intro i z
  subst z
  cases h
@[simp] theorem cAs_io (i : Nat) (es : List E) : evAs cf io (.io i :: es) (x :: l) = match (x :: l)[i]? with
    | some (.ow _ _) => (evAs cf io es (x :: l)).bind fun as s1 => .ok (.io i :: as) s1
    | _ => .no := by first | (rw [evAs]; done) | (rw [evAs]; rfl)
@[simp] theorem cO_none : evO cf io none (x :: l) = .ok none (x :: l) := by rw [evO]
@[simp] theorem cO_some (e : E) : evO cf io (some e) (x :: l) = (evE cf io e (x :: l)).bind fun r s1 => match r.d with
    | .int i => .ok (some i) s1
    | _ => .no := by first | (rw [evO]; done) | (rw [evO]; rfl)
@[simp] theorem cC_none : evC cf io none (x :: l) = .ok true (x :: l) := by rw [evC]
@[simp] theorem cC_some (e : E) : evC cf io (some e) (x :: l) = (evE cf io e (x :: l)).bind fun r s1 => bCond r s1 fun b => .ok b s1 := by rw [evC]
@[simp] theorem b_ok {α β : Type} (a : α) (s : Sl) (f : α → Sl → Ev β) : (Ev.ok a s).bind f = f a s := id rfl
@[simp] theorem b_no {α β : Type} (f : α → Sl → Ev β) : (Ev.no : Ev α).bind f = .no := id rfl
@[simp] theorem of_some {α : Type} (a : α) (s : Sl) : Ev.of (some a) s = .ok a s := id rfl
@[simp] theorem of_none {α : Type} (s : Sl) : Ev.of (none : Option α) s = .no := id rfl
@[simp] theorem rk_some (k : Nat) (d : D) (s : Sl) : Ev.rk (some (k, d)) s = .ok (.ow k d) s := id rfl
@[simp] theorem r0_some (d : D) (s : Sl) : Ev.r0 (some d) s = .ok (.ow 0 d) s := id rfl
@[simp] theorem o_nx (s : Sl) (f : Sl → Out) : (Out.nx s).bind f = f s := id rfl
@[simp] theorem o_ret (k : Nat) (d : D) (s : Sl) (f : Sl → Out) : (Out.ret k d s).bind f = .ret k d s := id rfl
@[simp] theorem o_brk (s : Sl) (f : Sl → Out) : (Out.brk s).bind f = .brk s := id rfl
@[simp] theorem o_ct (s : Sl) (f : Sl → Out) : (Out.ct s).bind f = .ct s := id rfl
@[simp] theorem rv_bo0 (i : Nat) (d : D) : Slot.rv i (.bo 0 d) = some (.ow 0 d) := id rfl
@[simp] theorem rv_bo (i k : Nat) (d : D) : Slot.rv i (.bo (k + 1) d) = some (.bo [] (k + 1) d) := id rfl
@[simp] theorem rv_ow (i k : Nat) (d : D) : Slot.rv i (.ow (k + 1) d) = some (.bo [i] (k + 1) d) := id rfl
@[simp] theorem d_ow (k : Nat) (d : D) : (RV.ow k d).d = d := id rfl
@[simp] theorem d_bo (src : List Nat) (k : Nat) (d : D) : (RV.bo src k d).d = d := id rfl
@[simp] theorem src_ow (k : Nat) (d : D) : (RV.ow k d).src = [] := id rfl
@[simp] theorem src_bo (src : List Nat) (k : Nat) (d : D) : (RV.bo src k d).src = src := id rfl
@[simp] theorem clash_nil (ms : List Nat) : clash [] ms = false := id rfl
@[simp] theorem clash_nil2 (src : List Nat) : clash src [] = false := by unfold clash; simp
@[simp] theorem sh_ow0 (d : D) : (RV.ow 0 d).sh = some d := id rfl
@[simp] theorem sh_ow1 (d : D) : (RV.ow 1 d).sh = some d := id rfl
@[simp] theorem sh_bo1 (src : List Nat) (d : D) : (RV.bo src 1 d).sh = some d := id rfl
@[simp] theorem el_ow (k : Nat) (d e : D) : (RV.ow k d).el e = .ow (k - 1) e := id rfl
@[simp] theorem el_bo1 (src : List Nat) (d e : D) : (RV.bo src 1 d).el e = .ow 0 e := id rfl
@[simp] theorem el_bo2 (src : List Nat) (k : Nat) (d e : D) : (RV.bo src (k + 2) d).el e = .bo src (k + 1) e := id rfl
@[simp] theorem deep_0 (w : Nat) (d : D) : deep 0 w d = solid w d := id rfl
@[simp] theorem fit_same (k : Nat) (d : D) : (RV.ow k d).fit k = some d := by simp [RV.fit]
@[simp] theorem fit_0 (k : Nat) (d : D) : (RV.ow k d).fit 0 = some d := by simp [RV.fit]
@[simp] theorem bc_ow {α : Type} (k : Nat) (b : Bool) (s : Sl) (f : Bool → Ev α) : bCond (.ow k (.bl b)) s f = f b := id rfl
@[simp] theorem evret_ow (k : Nat) (d : D) (s : Sl) : evRet (.ow k d) s = .ret k d s := id rfl
@[simp] theorem io_con (d : D) : isIo (.con d) = none := id rfl
@[simp] theorem io_gl (q : String) (d : D) : isIo (.gl q d) = none := id rfl
@[simp] theorem io_var (i : Nat) : isIo (.var i) = none := id rfl
@[simp] theorem io_mv (i : Nat) : isIo (.mv i) = none := id rfl
@[simp] theorem io_gv (i : Nat) : isIo (.gv i) = none := id rfl
@[simp] theorem io_bin (o : Bop) (a : E) (b : E) : isIo (.bin o a b) = none := id rfl
@[simp] theorem io_neg (a : E) : isIo (.neg a) = none := id rfl
@[simp] theorem io_cmp (o : Cop) (a : E) (b : E) : isIo (.cmp o a b) = none := id rfl
@[simp] theorem io_chn (o : Cop) (p : Cop) (a : E) (b : E) (c : E) : isIo (.chn o p a b c) = none := id rfl
@[simp] theorem io_and (a : E) (b : E) : isIo (.and a b) = none := id rfl
@[simp] theorem io_or (a : E) (b : E) : isIo (.or a b) = none := id rfl
@[simp] theorem io_not (a : E) : isIo (.not a) = none := id rfl
@[simp] theorem io_ite (a : E) (b : E) (c : E) : isIo (.ite a b c) = none := id rfl
@[simp] theorem io_tup (i : Nat) (es : List E) : isIo (.tup i es) = none := id rfl
@[simp] theorem io_lst (i : Nat) (es : List E) : isIo (.lst i es) = none := id rfl
@[simp] theorem io_dct (es : List E) (fs : List E) : isIo (.dct es fs) = none := id rfl
@[simp] theorem io_idx (a : E) (b : E) : isIo (.idx a b) = none := id rfl
@[simp] theorem io_slc (a : E) (o : Option E) (p : Option E) : isIo (.slc a o p) = none := id rfl
@[simp] theorem io_srt (a : E) : isIo (.srt a) = none := id rfl
@[simp] theorem io_gix (q : String) (zs : List String) (a : E) : isIo (.gix q zs a) = none := id rfl
@[simp] theorem io_dcs (k : Nat) (kvs : List (String × Option D)) : isIo (.dcs k kvs) = none := id rfl
@[simp] theorem io_rev (a : E) : isIo (.rev a) = none := id rfl
@[simp] theorem io_fld (c : String) (a : E) (q : String) : isIo (.fld c a q) = none := id rfl
@[simp] theorem io_meth (c m : String) (g : Nat) (es : List E) : isIo (.meth c m g es) = none := id rfl
@[simp] theorem io_mk (k : Nat) (c : String) (g : Nat) (es : List E) : isIo (.mk k c g es) = none := id rfl
@[simp] theorem fldD_ins (c f c' : String) (fs : List (String × D)) : fldD c f (.ins c' fs) = if c' = c then fs.lookup f else none := id rfl
@[simp] theorem isC_ins (c m c' : String) (fs : List (String × D)) : isC c m (.ins c' fs) = (decide (c' = c) && (fs.lookup m).isNone) := id rfl
@[simp] theorem setFld_nil (f : String) (d : D) : setFld [] f d = [(f, d)] := id rfl
@[simp] theorem setFld_cons (g f : String) (x d : D) (r : List (String × D)) : setFld ((g, x) :: r) f d = if g = f then (g, d) :: r else (g, x) :: setFld r f d := id rfl
@[simp] theorem selfAv_rv (c m : String) (s : Sl) (r : RV) (as : List AV) : selfAv c m s (.rv r :: as) = isC c m r.d := id rfl
@[simp] theorem selfAv_io (c m : String) (s : Sl) (i : Nat) (as : List AV) : selfAv c m s (.io i :: as) = match s[i]? with
    | some (.ow _ d) => isC c m d
    | _ => false := id rfl
@[simp] theorem io_call (i : Nat) (es : List E) : isIo (.call i es) = none := id rfl
@[simp] theorem io_bi (b : Bi) (es : List E) : isIo (.bi b es) = none := id rfl
@[simp] theorem io_isi (a : E) (ts : List Ty) : isIo (.isi a ts) = none := id rfl
@[simp] theorem io_bm (m : Bm) (o : E) (es : List E) : isIo (.bm m o es) = none := id rfl
@[simp] theorem io_lc (i : Nat) (a : E) (t : Tg) (b : E) (c : Option E) : isIo (.lc i a t b c) = none := id rfl
@[simp] theorem io_rng (es : List E) : isIo (.rng es) = none := id rfl
@[simp] theorem bin_add (i j : Int) : binD .add (.int i) (.int j) = some (0, .int (i + j)) := id rfl
@[simp] theorem bin_adds (a b : String) : binD .add (.str a) (.str b) = if a.length + b.length ≤ big then some (0, .str (a ++ b)) else none := id rfl
@[simp] theorem bin_addt (a b : List D) : binD .add (.tup a) (.tup b) = if a.length + b.length ≤ big then some (0, .tup (a ++ b)) else none := id rfl
@[simp] theorem bin_addl (a b : List D) : binD .add (.lst a) (.lst b) = if a.length + b.length ≤ big then some (1, .lst (a ++ b)) else none := id rfl
@[simp] theorem bin_sub (i j : Int) : binD .sub (.int i) (.int j) = some (0, .int (i - j)) := id rfl
@[simp] theorem bin_mul (i j : Int) : binD .mul (.int i) (.int j) = if mulOk i j then some (0, .int (i * j)) else none := id rfl
@[simp] theorem bin_mod (i j : Int) : binD .mod (.int i) (.int j) = if 0 < j then some (0, .int (i % j)) else none := id rfl
@[simp] theorem bin_fdiv (i j : Int) : binD .fdiv (.int i) (.int j) = if 0 < j ∧ j < 2 ^ 200 then some (0, .int (i / j)) else none := id rfl
@[simp] theorem bin_pow (i j : Int) : binD .pow (.int i) (.int j) = if 0 ≤ j ∧ j ≤ 1000 ∧ i.natAbs < 2 ^ 64 then some (0, .int (i ^ j.toNat)) else none := id rfl
@[simp] theorem cmp_lt (i j : Int) : cmpD .lt (.int i) (.int j) = some (decide (i < j)) := id rfl
@[simp] theorem cmp_le (i j : Int) : cmpD .le (.int i) (.int j) = some (decide (i ≤ j)) := id rfl
@[simp] theorem cmp_gt (i j : Int) : cmpD .gt (.int i) (.int j) = some (decide (j < i)) := id rfl
@[simp] theorem cmp_ge (i j : Int) : cmpD .ge (.int i) (.int j) = some (decide (j ≤ i)) := id rfl
theorem cmp_eq (a b : D) : cmpD .eq a b = if eqOk a b then some (D.eqv a b) else eqDc a b := rfl
theorem cmp_ne (a b : D) : cmpD .ne a b = if eqOk a b then some (!D.eqv a b) else (eqDc a b).map (! ·) := rfl
@[simp] theorem cmp_lts (a b : String) : cmpD .lt (.str a) (.str b) = some (decide (codes a < codes b)) := id rfl
@[simp] theorem cmp_ges (a b : String) : cmpD .ge (.str a) (.str b) = some (!decide (codes a < codes b)) := id rfl
@[simp] theorem cmp_in (a b : D) : cmpD .inn a b = inD a b := id rfl
@[simp] theorem cmp_nin (a b : D) : cmpD .nin a b = (inD a b).map (! ·) := id rfl
@[simp low] theorem idx_l (a : List D) (i : Int) : idxD (.lst a) (.int i) = (place a.length i).bind fun j => a[j]? := id rfl
@[simp low] theorem idx_t (a : List D) (i : Int) : idxD (.tup a) (.int i) = (place a.length i).bind fun j => a[j]? := id rfl
@[simp] theorem idx_s (a : String) (i : Int) : idxD (.str a) (.int i) = if 0 ≤ i then (a.toList[i.toNat]?).map fun c => .str (String.singleton c) else none := id rfl
@[simp] theorem idx_d (a : List (D × D)) (k : D) : idxD (.dct a) k = if keyOk k then lookD a k else none := id rfl
@[simp] theorem bi_len_lst (a : List D) : biD .len [.lst a] = some (0, .int a.length) := id rfl
@[simp] theorem bi_len_tup (a : List D) : biD .len [.tup a] = some (0, .int a.length) := id rfl
@[simp] theorem bi_len_str (a : String) : biD .len [.str a] = some (0, .int a.length) := id rfl
@[simp] theorem bi_len_dct (a : List (D × D)) : biD .len [.dct a] = some (0, .int a.length) := id rfl
@[simp] theorem bi_all (a : List D) : biD .all [.lst a] = (boolsD a).map fun bs => (0, .bl (bs.all id)) := id rfl
@[simp] theorem bi_sum (a : List D) : biD .sum [.lst a] = (intsD a).map fun ns => (0, .int ns.sum) := id rfl
@[simp] theorem bi_sorted (a : List D) : biD .sorted [.lst a] = if sortOk a then some (1, .lst (sortD a)) else none := id rfl
@[simp] theorem bi_sortedd (a : List (D × D)) : biD .sorted [.dct a] = if keySort (keysOf a) then some (1, .lst (sortD (keysOf a))) else none := id rfl
@[simp] theorem bi_list_lst (a : List D) : biD .list [.lst a] = some (1, .lst a) := id rfl
@[simp] theorem bi_list_tup (a : List D) : biD .list [.tup a] = some (1, .lst a) := id rfl
@[simp] theorem bi_list_scr (a : List D) : biD .list [.scr a] = some (1, .lst a) := id rfl
@[simp] theorem bi_list_dct (a : List (D × D)) : biD .list [.dct a] = some (1, .lst (keysOf a)) := id rfl
@[simp] theorem bi_tuple_lst (a : List D) : biD .tuple [.lst a] = some (0, .tup a) := id rfl
@[simp] theorem bi_tuple_tup (a : List D) : biD .tuple [.tup a] = some (0, .tup a) := id rfl
@[simp] theorem bi_dict_lst (a : List D) : biD .dict [.lst a] = (pairsD a).map fun ps => (1, .dct (ps.foldl (fun acc p => putD acc p.1 p.2) [])) := id rfl
@[simp] theorem bi_dict_tup (a : List D) : biD .dict [.tup a] = (pairsD a).map fun ps => (1, .dct (ps.foldl (fun acc p => putD acc p.1 p.2) [])) := id rfl
@[simp] theorem bi_max2 (i j : Int) : biD .max2 [.int i, .int j] = some (0, .int (if j > i then j else i)) := id rfl
@[simp] theorem bi_min2 (i j : Int) : biD .min2 [.int i, .int j] = some (0, .int (if j < i then j else i)) := id rfl
@[simp] theorem shb_len  : Bi.shares .len = false := id rfl
@[simp] theorem shb_all  : Bi.shares .all = false := id rfl
@[simp] theorem shb_sum  : Bi.shares .sum = false := id rfl
@[simp] theorem shb_min2  : Bi.shares .min2 = false := id rfl
@[simp] theorem shb_max2  : Bi.shares .max2 = false := id rfl
@[simp] theorem shb_sorted  : Bi.shares .sorted = true := id rfl
@[simp] theorem shb_list  : Bi.shares .list = true := id rfl
@[simp] theorem shb_tuple  : Bi.shares .tuple = true := id rfl
@[simp] theorem shb_dict  : Bi.shares .dict = true := id rfl
@[simp] theorem rvs_nil  : AV.rvs [] = some [] := id rfl
@[simp] theorem rvs_rv (r : RV) (a : List AV) : AV.rvs (.rv r :: a) = (AV.rvs a).map (r :: ·) := id rfl
@[simp] theorem shs_nil  : shs [] = some [] := id rfl
@[simp] theorem shs_cons (r : RV) (rs : List RV) : shs (r :: rs) = r.sh.bind fun d => (shs rs).map (d :: ·) := by
  simp only [shs]
  cases r.sh <;> cases shs rs <;> rfl
@[simp] theorem fits_nil (k : Nat) : fits k [] = some [] := id rfl
@[simp] theorem fits_cons (k : Nat) (r : RV) (rs : List RV) : fits k (r :: rs) = (r.fit k).bind fun d => (fits k rs).map (d :: ·) := by
  simp only [fits]
  cases r.fit k <;> cases fits k rs <;> rfl
@[simp] theorem ios_nil  : AV.ios [] = [] := id rfl
@[simp] theorem ios_rv (r : RV) (a : List AV) : AV.ios (.rv r :: a) = AV.ios a := id rfl
@[simp] theorem ios_io (i : Nat) (a : List AV) : AV.ios (.io i :: a) = i :: AV.ios a := id rfl
@[simp] theorem srcs_nil  : AV.srcs [] = [] := id rfl
@[simp] theorem srcs_rv (r : RV) (a : List AV) : AV.srcs (.rv r :: a) = r.src ++ AV.srcs a := id rfl
@[simp] theorem srcs_io (i : Nat) (a : List AV) : AV.srcs (.io i :: a) = AV.srcs a := id rfl
@[simp] theorem args_nil2 (s : Sl) : AV.args s [] = some [] := id rfl
@[simp] theorem args_rv2 (s : Sl) (r : RV) (a : List AV) : AV.args s (.rv r :: a) = (AV.args s a).map (.pv r.k r.d :: ·) := id rfl
@[simp] theorem args_io2 (s : Sl) (i : Nat) (a : List AV) : AV.args s (.io i :: a) = match s[i]? with
    | some (.ow k d) => (AV.args s a).map (.io k d :: ·)
    | _ => none := by first | rfl | (rw [AV.args]; rfl)
@[simp] theorem k_ow (k : Nat) (d : D) : (RV.ow k d).k = k := id rfl
@[simp] theorem k_bo (src : List Nat) (k : Nat) (d : D) : (RV.bo src k d).k = k := id rfl
@[simp] theorem it_l (a : List D) : itemsOf (.lst a) = some a := id rfl
@[simp] theorem it_t (a : List D) : itemsOf (.tup a) = some a := id rfl
@[simp] theorem walk_ow (k : Nat) (d : D) (ms : List Nat) (o : Option (List D)) : (RV.ow k d).walk ms o = o := id rfl
@[simp] theorem so_nil (s : Sl) : setOuts s [] [] = some s := id rfl
@[simp] theorem so_cons (s : Sl) (i : Nat) (is : List Nat) (d : D) (ds : List D) : setOuts s (i :: is) (d :: ds) = match s[i]? with
    | some (.ow k _) => setOuts (s.set i (.ow k d)) is ds
    | _ => none := rfl
@[simp] theorem sl_l (a : List D) (lo hi : Option Int) : slcD (.lst a) lo hi = some (1, .lst (slcL a lo hi)) := id rfl
@[simp] theorem sl_t (a : List D) (lo hi : Option Int) : slcD (.tup a) lo hi = some (0, .tup (slcL a lo hi)) := id rfl
@[simp] theorem rev_l (a : List D) : revD (.lst a) = some (1, .lst a.reverse) := id rfl
@[simp] theorem rev_t (a : List D) : revD (.tup a) = some (0, .tup a.reverse) := id rfl
@[simp] theorem cAs_con (d : D) (es_ : List E) : evAs cf io ((.con d) :: es_) (x :: l) = (evE cf io (.con d) (x :: l)).bind fun r s1 => if clash r.src (E.mutss es_) then .no else (evAs cf io es_ s1).bind fun as s2 => .ok (.rv r :: as) s2 := cAs_cons cf io x l (.con d) es_ rfl
@[simp] theorem cAs_gl (q : String) (d : D) (es_ : List E) : evAs cf io ((.gl q d) :: es_) (x :: l) = (evE cf io (.gl q d) (x :: l)).bind fun r s1 => if clash r.src (E.mutss es_) then .no else (evAs cf io es_ s1).bind fun as s2 => .ok (.rv r :: as) s2 := cAs_cons cf io x l (.gl q d) es_ rfl
@[simp] theorem cAs_var (i : Nat) (es_ : List E) : evAs cf io ((.var i) :: es_) (x :: l) = (evE cf io (.var i) (x :: l)).bind fun r s1 => if clash r.src (E.mutss es_) then .no else (evAs cf io es_ s1).bind fun as s2 => .ok (.rv r :: as) s2 := cAs_cons cf io x l (.var i) es_ rfl
@[simp] theorem cAs_mv (i : Nat) (es_ : List E) : evAs cf io ((.mv i) :: es_) (x :: l) = (evE cf io (.mv i) (x :: l)).bind fun r s1 => if clash r.src (E.mutss es_) then .no else (evAs cf io es_ s1).bind fun as s2 => .ok (.rv r :: as) s2 := cAs_cons cf io x l (.mv i) es_ rfl
@[simp] theorem cAs_gv (i : Nat) (es_ : List E) : evAs cf io ((.gv i) :: es_) (x :: l) = (evE cf io (.gv i) (x :: l)).bind fun r s1 => if clash r.src (E.mutss es_) then .no else (evAs cf io es_ s1).bind fun as s2 => .ok (.rv r :: as) s2 := cAs_cons cf io x l (.gv i) es_ rfl
@[simp] theorem cAs_bin (o : Bop) (a : E) (b : E) (es_ : List E) : evAs cf io ((.bin o a b) :: es_) (x :: l) = (evE cf io (.bin o a b) (x :: l)).bind fun r s1 => if clash r.src (E.mutss es_) then .no else (evAs cf io es_ s1).bind fun as s2 => .ok (.rv r :: as) s2 := cAs_cons cf io x l (.bin o a b) es_ rfl
@[simp] theorem cAs_neg (a : E) (es_ : List E) : evAs cf io ((.neg a) :: es_) (x :: l) = (evE cf io (.neg a) (x :: l)).bind fun r s1 => if clash r.src (E.mutss es_) then .no else (evAs cf io es_ s1).bind fun as s2 => .ok (.rv r :: as) s2 := cAs_cons cf io x l (.neg a) es_ rfl
@[simp] theorem cAs_cmp (o : Cop) (a : E) (b : E) (es_ : List E) : evAs cf io ((.cmp o a b) :: es_) (x :: l) = (evE cf io (.cmp o a b) (x :: l)).bind fun r s1 => if clash r.src (E.mutss es_) then .no else (evAs cf io es_ s1).bind fun as s2 => .ok (.rv r :: as) s2 := cAs_cons cf io x l (.cmp o a b) es_ rfl
@[simp] theorem cAs_chn (o : Cop) (p : Cop) (a : E) (b : E) (c : E) (es_ : List E) : evAs cf io ((.chn o p a b c) :: es_) (x :: l) = (evE cf io (.chn o p a b c) (x :: l)).bind fun r s1 => if clash r.src (E.mutss es_) then .no else (evAs cf io es_ s1).bind fun as s2 => .ok (.rv r :: as) s2 := cAs_cons cf io x l (.chn o p a b c) es_ rfl
@[simp] theorem cAs_and (a : E) (b : E) (es_ : List E) : evAs cf io ((.and a b) :: es_) (x :: l) = (evE cf io (.and a b) (x :: l)).bind fun r s1 => if clash r.src (E.mutss es_) then .no else (evAs cf io es_ s1).bind fun as s2 => .ok (.rv r :: as) s2 := cAs_cons cf io x l (.and a b) es_ rfl
@[simp] theorem cAs_or (a : E) (b : E) (es_ : List E) : evAs cf io ((.or a b) :: es_) (x :: l) = (evE cf io (.or a b) (x :: l)).bind fun r s1 => if clash r.src (E.mutss es_) then .no else (evAs cf io es_ s1).bind fun as s2 => .ok (.rv r :: as) s2 := cAs_cons cf io x l (.or a b) es_ rfl
@[simp] theorem cAs_not (a : E) (es_ : List E) : evAs cf io ((.not a) :: es_) (x :: l) = (evE cf io (.not a) (x :: l)).bind fun r s1 => if clash r.src (E.mutss es_) then .no else (evAs cf io es_ s1).bind fun as s2 => .ok (.rv r :: as) s2 := cAs_cons cf io x l (.not a) es_ rfl
@[simp] theorem cAs_ite (a : E) (b : E) (c : E) (es_ : List E) : evAs cf io ((.ite a b c) :: es_) (x :: l) = (evE cf io (.ite a b c) (x :: l)).bind fun r s1 => if clash r.src (E.mutss es_) then .no else (evAs cf io es_ s1).bind fun as s2 => .ok (.rv r :: as) s2 := cAs_cons cf io x l (.ite a b c) es_ rfl
@[simp] theorem cAs_tup (i : Nat) (es : List E) (es_ : List E) : evAs cf io ((.tup i es) :: es_) (x :: l) = (evE cf io (.tup i es) (x :: l)).bind fun r s1 => if clash r.src (E.mutss es_) then .no else (evAs cf io es_ s1).bind fun as s2 => .ok (.rv r :: as) s2 := cAs_cons cf io x l (.tup i es) es_ rfl
@[simp] theorem cAs_lst (i : Nat) (es : List E) (es_ : List E) : evAs cf io ((.lst i es) :: es_) (x :: l) = (evE cf io (.lst i es) (x :: l)).bind fun r s1 => if clash r.src (E.mutss es_) then .no else (evAs cf io es_ s1).bind fun as s2 => .ok (.rv r :: as) s2 := cAs_cons cf io x l (.lst i es) es_ rfl
@[simp] theorem cAs_dct (es : List E) (fs : List E) (es_ : List E) : evAs cf io ((.dct es fs) :: es_) (x :: l) = (evE cf io (.dct es fs) (x :: l)).bind fun r s1 => if clash r.src (E.mutss es_) then .no else (evAs cf io es_ s1).bind fun as s2 => .ok (.rv r :: as) s2 := cAs_cons cf io x l (.dct es fs) es_ rfl
@[simp] theorem cAs_idx (a : E) (b : E) (es_ : List E) : evAs cf io ((.idx a b) :: es_) (x :: l) = (evE cf io (.idx a b) (x :: l)).bind fun r s1 => if clash r.src (E.mutss es_) then .no else (evAs cf io es_ s1).bind fun as s2 => .ok (.rv r :: as) s2 := cAs_cons cf io x l (.idx a b) es_ rfl
@[simp] theorem cAs_slc (a : E) (o : Option E) (p : Option E) (es_ : List E) : evAs cf io ((.slc a o p) :: es_) (x :: l) = (evE cf io (.slc a o p) (x :: l)).bind fun r s1 => if clash r.src (E.mutss es_) then .no else (evAs cf io es_ s1).bind fun as s2 => .ok (.rv r :: as) s2 := cAs_cons cf io x l (.slc a o p) es_ rfl
@[simp] theorem cAs_rev (a : E) (es_ : List E) : evAs cf io ((.rev a) :: es_) (x :: l) = (evE cf io (.rev a) (x :: l)).bind fun r s1 => if clash r.src (E.mutss es_) then .no else (evAs cf io es_ s1).bind fun as s2 => .ok (.rv r :: as) s2 := cAs_cons cf io x l (.rev a) es_ rfl
@[simp] theorem cAs_fld (c_ : String) (a : E) (q : String) (es_ : List E) : evAs cf io ((.fld c_ a q) :: es_) (x :: l) = (evE cf io (.fld c_ a q) (x :: l)).bind fun r s1 => if clash r.src (E.mutss es_) then .no else (evAs cf io es_ s1).bind fun as s2 => .ok (.rv r :: as) s2 := cAs_cons cf io x l (.fld c_ a q) es_ rfl
@[simp] theorem cAs_call (i : Nat) (es : List E) (es_ : List E) : evAs cf io ((.call i es) :: es_) (x :: l) = (evE cf io (.call i es) (x :: l)).bind fun r s1 => if clash r.src (E.mutss es_) then .no else (evAs cf io es_ s1).bind fun as s2 => .ok (.rv r :: as) s2 := cAs_cons cf io x l (.call i es) es_ rfl
@[simp] theorem cAs_bi (b : Bi) (es : List E) (es_ : List E) : evAs cf io ((.bi b es) :: es_) (x :: l) = (evE cf io (.bi b es) (x :: l)).bind fun r s1 => if clash r.src (E.mutss es_) then .no else (evAs cf io es_ s1).bind fun as s2 => .ok (.rv r :: as) s2 := cAs_cons cf io x l (.bi b es) es_ rfl
@[simp] theorem cAs_isi (a : E) (ts : List Ty) (es_ : List E) : evAs cf io ((.isi a ts) :: es_) (x :: l) = (evE cf io (.isi a ts) (x :: l)).bind fun r s1 => if clash r.src (E.mutss es_) then .no else (evAs cf io es_ s1).bind fun as s2 => .ok (.rv r :: as) s2 := cAs_cons cf io x l (.isi a ts) es_ rfl
@[simp] theorem cAs_bm (m : Bm) (o : E) (es : List E) (es_ : List E) : evAs cf io ((.bm m o es) :: es_) (x :: l) = (evE cf io (.bm m o es) (x :: l)).bind fun r s1 => if clash r.src (E.mutss es_) then .no else (evAs cf io es_ s1).bind fun as s2 => .ok (.rv r :: as) s2 := cAs_cons cf io x l (.bm m o es) es_ rfl
@[simp] theorem cAs_lc (i : Nat) (a : E) (t : Tg) (b : E) (c : Option E) (es_ : List E) : evAs cf io ((.lc i a t b c) :: es_) (x :: l) = (evE cf io (.lc i a t b c) (x :: l)).bind fun r s1 => if clash r.src (E.mutss es_) then .no else (evAs cf io es_ s1).bind fun as s2 => .ok (.rv r :: as) s2 := cAs_cons cf io x l (.lc i a t b c) es_ rfl
@[simp] theorem cAs_srt (a : E) (es_ : List E) : evAs cf io ((.srt a) :: es_) (x :: l) = (evE cf io (.srt a) (x :: l)).bind fun r s1 => if clash r.src (E.mutss es_) then .no else (evAs cf io es_ s1).bind fun as s2 => .ok (.rv r :: as) s2 := cAs_cons cf io x l (.srt a) es_ rfl
@[simp] theorem cAs_gix (q : String) (zs : List String) (a : E) (es_ : List E) : evAs cf io ((.gix q zs a) :: es_) (x :: l) = (evE cf io (.gix q zs a) (x :: l)).bind fun r s1 => if clash r.src (E.mutss es_) then .no else (evAs cf io es_ s1).bind fun as s2 => .ok (.rv r :: as) s2 := cAs_cons cf io x l (.gix q zs a) es_ rfl
@[simp] theorem cAs_dcs (k : Nat) (kvs : List (String × Option D)) (es_ : List E) : evAs cf io ((.dcs k kvs) :: es_) (x :: l) = (evE cf io (.dcs k kvs) (x :: l)).bind fun r s1 => if clash r.src (E.mutss es_) then .no else (evAs cf io es_ s1).bind fun as s2 => .ok (.rv r :: as) s2 := cAs_cons cf io x l (.dcs k kvs) es_ rfl
@[simp] theorem cAs_rng (es : List E) (es_ : List E) : evAs cf io ((.rng es) :: es_) (x :: l) = (evE cf io (.rng es) (x :: l)).bind fun r s1 => if clash r.src (E.mutss es_) then .no else (evAs cf io es_ s1).bind fun as s2 => .ok (.rv r :: as) s2 := cAs_cons cf io x l (.rng es) es_ rfl
end Ti
end

section
/-! loops, plainly -/
namespace Ti
variable (cf : Nat → List Ti.Arg → Rs) (io : List Nat) (n : Nat) (x : Slot) (l : Sl)
/-- a comprehension's turn -/
def lcF (k : Nat) (e : E) (t : Tg) (c : Option E) (x : D) (s2 : Sl) : Ev (Option D) := match Tg.put t x s2 with
  | some s3 => (evC cf io c s3).bind fun b s4 => if b then (evE cf io e s4).bind fun r s5 => match r.fit (k - 1) with
      | some d => if noOw t.slots s5 = true then .ok (some d) (wipeS t.slots s5) else .no
      | none => .no
    else if noOw t.slots s4 = true then .ok none (wipeS t.slots s4) else .no
  | none => .no
theorem cE_lc (k : Nat) (e : E) (t : Tg) (it : E) (c : Option E) : evE cf io (.lc k e t it c) (x :: l) = (evE cf io it (x :: l)).bind fun r0 s0 => (Ev.of (r0.walk (E.muts e ++ E.mutso c) (itemsOf r0.d)) s0).bind fun ds s1 =>
      if 1 ≤ k ∧ noOw t.slots s1 = true ∧ ds.length ≤ big then (lcGo (lcF cf io k e t c) ds (wipeS t.slots s1)).bind fun ys s6 => .ok (.ow k (.lst ys)) (restore t.slots s1 s6) else .no := by
  first | (rw [evE]; done) | (rw [evE]; rfl)
@[simp] theorem evp_nil (s : Sl) : evPath cf io [] s = some [] := by rw [evPath]
@[simp] theorem evp_fk (c f : String) (es : List E) (s : Sl) : evPath cf io (.fk c f :: es) s = (evPath cf io es s).map (.ins c [(f, .non)] :: ·) := by rw [evPath]
theorem evp_cons (e : E) (es : List E) (h : E.muts e = []) (hf : isFk e = none) : evPath cf io (e :: es) (x :: l) = match evE cf io e (x :: l) with
    | .ok r _ => if keyOk r.d = true then (evPath cf io es (x :: l)).map (r.d :: ·) else none
    | .no => none := by
  have hfk : ∀ c f, e = .fk c f → False := fun c f z => by
    subst z
    cases hf
  rw [evPath, if_pos h]
  all_goals first
    | exact hfk
    | (cases evE cf io e (x :: l) <;> rfl)
@[simp] theorem evp_con (d : D) (es : List E) : evPath cf io (.con d :: es) (x :: l) = if keyOk d = true then (evPath cf io es (x :: l)).map (d :: ·) else none := by
  first | (rw [evp_cons cf io x l (.con d) es (by simp [E.muts]) rfl, cE_con]; done) | (rw [evp_cons cf io x l (.con d) es (by simp [E.muts]) rfl, cE_con]; rfl)
@[simp] theorem evp_var (i : Nat) (es : List E) : evPath cf io (.var i :: es) (x :: l) = match evE cf io (.var i) (x :: l) with
    | .ok r _ => if keyOk r.d = true then (evPath cf io es (x :: l)).map (r.d :: ·) else none
    | .no => none := evp_cons cf io x l (.var i) es (by simp [E.muts]) rfl
/-- a for's turn -/
def forF (t : Tg) (b : List S) (x : D) (s2 : Sl) : Out := match Tg.put t x s2 with
  | some s3 => evSs cf io n b s3
  | none => .no
theorem cS_for (t : Tg) (it : E) (b : List S) : evS cf io n (.for_ t it b) (x :: l) = match evE cf io it (x :: l) with
    | .ok r s1 => if okTg io t then match r.walk (t.slots ++ S.mutss b) (itemsOf r.d) with
        | some ds => forGo (forF cf io n t b) ds s1
        | none => .no
      else .no
    | .no => .no := by
  first | (rw [evS]; done) | (rw [evS]; rfl)
theorem lcGo_map {f : D → Sl → Ev (Option D)} {s : Sl} {g : D → Option D} : ∀ {ds : List D}, (∀ x ∈ ds, f x s = .ok (g x) s) → lcGo f ds s = .ok (ds.filterMap g) s
  | [], _ => rfl
  | y :: ys, h => by
    simp only [lcGo, h y (by simp), b_ok]
    rw [lcGo_map fun z hz => h z (by simp [hz])]
    rw [b_ok, List.filterMap_cons]
    cases g y <;> rfl
/-- all in a row: the turns change the slots by a relation -/
theorem lcGo_inv {f : D → Sl → Ev (Option D)} {P : Sl → Prop} {R : D → Prop} : ∀ {ds : List D} {s : Sl}, P s → (∀ x ∈ ds, ∀ s, P s → ∃ o s', f x s = .ok o s' ∧ P s' ∧ ∀ y, o = some y → R y) → ∃ ys s', lcGo f ds s = .ok ys s' ∧ P s' ∧ (∀ y ∈ ys, R y) ∧ ys.length ≤ ds.length
  | [], s, hs, _ => ⟨[], s, rfl, hs, (fun _ m => by cases m), Nat.le_refl _⟩
  | x :: xs, s, hs, h => by
    obtain ⟨o, s1, e1, p1, r1⟩ := h x (by simp) s hs
    obtain ⟨ys, s2, e2, p2, r2, l2⟩ := lcGo_inv (ds := xs) p1 fun z hz => h z (by simp [hz])
    simp only [lcGo, e1, b_ok, e2]
    cases o with
    | none => exact ⟨ys, s2, rfl, p2, r2, by simp; omega⟩
    | some y =>
      refine ⟨y :: ys, s2, rfl, p2, fun z hz => ?_, by simp; omega⟩
      rcases List.mem_cons.mp hz with rfl | hz
      · exact r1 z rfl
      · exact r2 z hz
/-- a for that goes through -/
theorem forGo_inv {f : D → Sl → Out} {P : Sl → Prop} : ∀ {ds : List D} {s : Sl}, P s → (∀ x ∈ ds, ∀ s, P s → ∃ s', (f x s = .nx s' ∨ f x s = .ct s') ∧ P s') → ∃ s', forGo f ds s = .nx s' ∧ P s'
  | [], s, hs, _ => ⟨s, rfl, hs⟩
  | x :: xs, s, hs, h => by
    obtain ⟨s1, e1, p1⟩ := h x (by simp) s hs
    obtain ⟨s2, e2, p2⟩ := forGo_inv (ds := xs) p1 fun z hz => h z (by simp [hz])
    refine ⟨s2, ?_, p2⟩
    rcases e1 with e1 | e1 <;> simp only [forGo, e1, e2]
theorem lcGo_each {α : Type} {f : D → Sl → Ev (Option D)} {s : Sl} {h g : α → D} : ∀ {as : List α}, (∀ a ∈ as, f (h a) s = .ok (some (g a)) s) → lcGo f (as.map h) s = .ok (as.map g) s
  | [], _ => rfl
  | a :: as, hh => by
    rw [List.map_cons, List.map_cons]
    simp only [lcGo, hh a (by simp), b_ok]
    rw [lcGo_each fun z hz => hh z (by simp [hz])]
    rfl
theorem bools_map {α : Type} {p : α → Bool} : ∀ {as : List α}, boolsD (as.map fun a => D.bl (p a)) = some (as.map p)
  | [] => rfl
  | a :: as => by
    rw [List.map_cons, boolsD, bools_map]
    rfl
theorem lcGo_some {α : Type} {f : D → Sl → Ev (Option D)} {s : Sl} {h : α → D} {g : α → Option D} : ∀ {as : List α}, (∀ a ∈ as, f (h a) s = .ok (g a) s) → lcGo f (as.map h) s = .ok (as.filterMap g) s
  | [], _ => rfl
  | a :: as, hh => by
    rw [List.map_cons, List.filterMap_cons]
    simp only [lcGo, hh a (by simp), b_ok]
    rw [lcGo_some fun z hz => hh z (by simp [hz])]
    rw [b_ok]
    cases g a <;> rfl
theorem eq_nil {ys : List D} (h : D.flats ys = true) : cmpD .eq (.lst ys) (.lst []) = some ys.isEmpty := by
  have e : eqOk (.lst ys) (.lst []) := ⟨h, rfl, by simp [D.dep, D.deps]⟩
  rw [cmp_eq, if_pos e]
  cases ys <;> rfl
theorem eqv_int (i j : Int) : D.eqv (.int i) (.int j) = (i == j) := by rw [D.eqv]
@[simp] theorem cmp_eq_int (i j : Int) : cmpD .eq (.int i) (.int j) = some (i == j) := by
  rw [cmp_eq, if_pos ⟨rfl, rfl, by simp [D.dep]⟩, eqv_int]
@[simp] theorem cmp_ne_int (i j : Int) : cmpD .ne (.int i) (.int j) = some (!(i == j)) := by
  rw [cmp_ne, if_pos ⟨rfl, rfl, by simp [D.dep]⟩, eqv_int]
theorem lcGo_all {f : D → Sl → Ev (Option D)} {s : Sl} {g : D → D} {ds : List D} (h : ∀ a ∈ ds, f a s = .ok (some (g a)) s) : lcGo f ds s = .ok (ds.map g) s := by
  have := lcGo_each (f := f) (s := s) (h := id) (g := g) (as := ds) h
  rwa [List.map_id] at this
end Ti
end

section
/-! plain facts: loops by what was walked, typed dicts -/
namespace Ti
/-- a for, by what was walked -/
theorem forGo_gen {f : D → Sl → Out} {P : List D → Sl → Prop} {Q : Nat → D → Sl → Prop} : ∀ (ds pre : List D) (s : Sl), P pre s →
    (∀ a x b, pre ++ ds = a ++ x :: b → ∀ s, P a s → (∃ s', (f x s = .nx s' ∨ f x s = .ct s') ∧ P (a ++ [x]) s') ∨ ∃ k d s', f x s = .ret k d s' ∧ Q k d s') →
    (∃ s', forGo f ds s = .nx s' ∧ P (pre ++ ds) s') ∨ ∃ k d s', forGo f ds s = .ret k d s' ∧ Q k d s'
  | [], pre, s, hs, _ => .inl ⟨s, rfl, by rw [List.append_nil]; exact hs⟩
  | x :: xs, pre, s, hs, h => by
    rcases h pre x xs rfl s hs with ⟨s1, e1, p1⟩ | ⟨k, d, s1, e1, q⟩
    · have := forGo_gen xs (pre ++ [x]) s1 p1 (fun a y b e => h a y b (by rw [← e]; simp))
      rw [List.append_assoc] at this
      rcases this with ⟨s2, e2, p2⟩ | ⟨k, d, s2, e2, q⟩
      · exact .inl ⟨s2, by rcases e1 with e1 | e1 <;> simp only [forGo, e1, e2], p2⟩
      · exact .inr ⟨k, d, s2, by rcases e1 with e1 | e1 <;> simp only [forGo, e1, e2], q⟩
    · exact .inr ⟨k, d, s1, by simp only [forGo, e1], q⟩
/-- a for that goes through, over encoded items -/
theorem forGo_pre {α : Type} {h : α → D} {f : D → Sl → Out} {P : List α → Sl → Prop} : ∀ (as pre : List α) (s : Sl), P pre s →
    (∀ a x b, pre ++ as = a ++ x :: b → ∀ s, P a s → ∃ s', (f (h x) s = .nx s' ∨ f (h x) s = .ct s') ∧ P (a ++ [x]) s') →
    ∃ s', forGo f (as.map h) s = .nx s' ∧ P (pre ++ as) s'
  | [], pre, s, hs, _ => ⟨s, rfl, by rw [List.append_nil]; exact hs⟩
  | x :: xs, pre, s, hs, hh => by
    obtain ⟨s1, e1, p1⟩ := hh pre x xs rfl s hs
    obtain ⟨s2, e2, p2⟩ := forGo_pre xs (pre ++ [x]) s1 p1 (fun a y b e => hh a y b (by rw [← e]; simp))
    rw [List.append_assoc] at p2
    exact ⟨s2, by rcases e1 with e1 | e1 <;> simp only [List.map_cons, forGo, e1, e2], p2⟩
/-- a comprehension, by what was walked -/
theorem lcGo_pre {α β : Type} {h : α → D} {g : β → D} {f : D → Sl → Ev (Option D)} {P : List α → List β → Sl → Prop} : ∀ (as pre : List α) (bs : List β) (s : Sl), P pre bs s →
    (∀ a x b bs, pre ++ as = a ++ x :: b → ∀ s, P a bs s → ∃ o s', f (h x) s = .ok (Option.map g o) s' ∧ P (a ++ [x]) (bs ++ o.toList) s') →
    ∃ cs s', lcGo f (as.map h) s = .ok (cs.map g) s' ∧ P (pre ++ as) (bs ++ cs) s'
  | [], pre, bs, s, hs, _ => ⟨[], s, rfl, by rw [List.append_nil, List.append_nil]; exact hs⟩
  | x :: xs, pre, bs, s, hs, hh => by
    obtain ⟨o, s1, e1, p1⟩ := hh pre x xs bs rfl s hs
    obtain ⟨cs, s2, e2, p2⟩ := lcGo_pre xs (pre ++ [x]) (bs ++ o.toList) s1 p1 (fun a y b bs' e => hh a y b bs' (by rw [← e]; simp))
    rw [List.append_assoc] at p2
    refine ⟨o.toList ++ cs, s2, ?_, by rw [← List.append_assoc]; exact p2⟩
    simp only [List.map_cons, lcGo, e1, b_ok, e2]
    cases o <;> rfl
/-- a for that gives up at the first bad item -/
theorem forGo_pred {f : D → Sl → Out} {p : D → Bool} {i : Nat} {r : D} {s : Sl} : ∀ {ds : List D} {v : Slot}, (∀ x ∈ ds, ∀ v, f x (s.set i v) = if p x = true then .nx (s.set i (.bo 0 x)) else .ret 0 r (s.set i (.bo 0 x))) →
    ∃ w, (w = v ∨ ∃ x, w = .bo 0 x) ∧ forGo f ds (s.set i v) = if ds.all p = true then .nx (s.set i w) else .ret 0 r (s.set i w)
  | [], v, _ => ⟨v, .inl rfl, rfl⟩
  | x :: xs, v, h => by
    cases hp : p x with
    | false => exact ⟨.bo 0 x, .inr ⟨x, rfl⟩, by simp only [forGo, h x (by simp), hp, List.all_cons, Bool.false_and, Bool.false_eq_true, if_false]⟩
    | true =>
      obtain ⟨w, q, e⟩ := forGo_pred (ds := xs) (v := .bo 0 x) fun y hy => h y (by simp [hy])
      exact ⟨w, .inr (q.elim (fun h => ⟨x, h⟩) id), by simp only [forGo, h x (by simp), hp, List.all_cons, Bool.true_and, if_true, e]⟩

/-! typed dicts -/
section
variable {κ β : Type} [DecidableEq κ]
def aget (kvs : List (κ × β)) (k : κ) : Option β := (kvs.find? fun p => decide (p.1 = k)).map (·.2)
def aput (kvs : List (κ × β)) (k : κ) (v : β) : List (κ × β) :=
  if (kvs.any fun p => decide (p.1 = k)) = true then kvs.map (fun p => if p.1 = k then (p.1, v) else p) else kvs ++ [(k, v)]
def dE (ek : κ → D) (ev : β → D) (kvs : List (κ × β)) : List (D × D) := kvs.map fun p => (ek p.1, ev p.2)
/-- keys that differ are told apart -/
def KeyE (ek : κ → D) : Prop := ∀ a b, D.eqv (ek a) (ek b) = decide (a = b)
theorem key_str : KeyE D.str := fun a b => by
  rw [D.eqv]
  by_cases h : a = b <;> simp [h]
theorem key_int : KeyE D.int := fun a b => by
  rw [D.eqv]
  by_cases h : a = b <;> simp [h]
variable {ek : κ → D} {ev : β → D} (hk : KeyE ek)
include hk
theorem look_dE (kvs : List (κ × β)) (k : κ) : lookD (dE ek ev kvs) (ek k) = (aget kvs k).map ev := by
  induction kvs with
  | nil => rfl
  | cons p kvs ih =>
    have e1 := hk p.1 k
    unfold lookD aget dE at *
    simp only [List.map_cons, List.find?_cons, e1]
    by_cases e : p.1 = k
    · simp [e]
    · simp only [e, decide_false]
      exact ih
theorem any_dE (kvs : List (κ × β)) (k : κ) : ((dE ek ev kvs).any fun p => D.eqv p.1 (ek k)) = kvs.any fun p => decide (p.1 = k) := by
  induction kvs with
  | nil => rfl
  | cons p kvs ih =>
    have e1 := hk p.1 k
    unfold dE at *
    rw [List.map_cons, List.any_cons, List.any_cons, ih, e1]
theorem put_dE (kvs : List (κ × β)) (k : κ) (v : β) : putD (dE ek ev kvs) (ek k) (ev v) = dE ek ev (aput kvs k v) := by
  unfold putD aput
  rw [any_dE hk]
  split
  · unfold dE
    rw [List.map_map, List.map_map]
    apply List.map_congr_left
    intro p _
    have e1 := hk p.1 k
    simp only [Function.comp, e1]
    by_cases e : p.1 = k <;> simp [e]
  · unfold dE
    rw [List.map_append]
    rfl
omit hk in
theorem keys_dE (kvs : List (κ × β)) : keysOf (dE ek ev kvs) = (kvs.map (·.1)).map ek := by
  unfold keysOf dE
  rw [List.map_map, List.map_map]
  rfl
omit hk in
theorem dE_nil : dE ek ev [] = [] := rfl
omit hk in
@[simp] theorem dE_length (kvs : List (κ × β)) : (dE ek ev kvs).length = kvs.length := by simp [dE]
omit hk in
theorem aput_keys (kvs : List (κ × β)) (k : κ) (v : β) : (aput kvs k v).map (·.1) = if k ∈ kvs.map (·.1) then kvs.map (·.1) else kvs.map (·.1) ++ [k] := by
  unfold aput
  by_cases h : k ∈ kvs.map (·.1)
  · have e : (kvs.any fun p => decide (p.1 = k)) = true := by
      obtain ⟨p, hp, rfl⟩ := List.mem_map.mp h
      exact List.any_eq_true.mpr ⟨p, hp, by simp⟩
    rw [if_pos e, if_pos h, List.map_map]
    apply List.map_congr_left
    intro p _
    simp only [Function.comp]
    split <;> rfl
  · have e : ¬ (kvs.any fun p => decide (p.1 = k)) = true := by
      intro q
      obtain ⟨p, hp, e⟩ := List.any_eq_true.mp q
      exact h (List.mem_map.mpr ⟨p, hp, of_decide_eq_true e⟩)
    rw [if_neg e, if_neg h, List.map_append]
    rfl
omit hk in
theorem aput_nodup {kvs : List (κ × β)} (k : κ) (v : β) (h : (kvs.map (·.1)).Nodup) : ((aput kvs k v).map (·.1)).Nodup := by
  rw [aput_keys]
  split
  · exact h
  · rename_i q
    exact List.nodup_append.mpr ⟨h, by simp, fun a ha b hb => by
      rw [List.mem_singleton] at hb
      subst hb
      exact fun e => q (e ▸ ha)⟩
omit hk in
theorem aput_len (kvs : List (κ × β)) (k : κ) (v : β) : (aput kvs k v).length ≤ kvs.length + 1 := by
  unfold aput
  split
  · rw [List.length_map]; omega
  · rw [List.length_append]; exact Nat.le_refl _
omit hk in
theorem aput_ne (kvs : List (κ × β)) (k : κ) (v : β) : aput kvs k v ≠ [] := by
  unfold aput
  split
  · rename_i h
    intro q
    rw [List.map_eq_nil_iff] at q
    subst q
    cases h
  · intro q
    simp at q
omit hk in
theorem aput_all {P : κ × β → Prop} {kvs : List (κ × β)} {k : κ} {v : β} (h : ∀ p ∈ kvs, P p) (hv : P (k, v)) : ∀ p ∈ aput kvs k v, P p := by
  unfold aput
  split
  · intro p hp
    obtain ⟨q, hq, rfl⟩ := List.mem_map.mp hp
    split
    · rename_i e
      subst e
      exact hv
    · exact h q hq
  · intro p hp
    rcases List.mem_append.mp hp with hp | hp
    · exact h p hp
    · rw [List.mem_singleton] at hp
      subst hp
      exact hv
omit hk in
theorem aget_some {kvs : List (κ × β)} {k : κ} (h : k ∈ kvs.map (·.1)) : ∃ v, aget kvs k = some v ∧ (k, v) ∈ kvs := by
  obtain ⟨p, hp, rfl⟩ := List.mem_map.mp h
  unfold aget
  cases e : kvs.find? fun q => decide (q.1 = p.1) with
  | none => exact absurd (List.find?_eq_none.mp e p hp) (by simp)
  | some q =>
    have m := List.mem_of_find?_eq_some e
    have g : q.1 = p.1 := by
      have := List.find?_some e
      simpa using this
    exact ⟨q.2, rfl, by rw [← g]; exact m⟩
end
/-- a dict's keys -/
def keys {κ β : Type} (kvs : List (κ × β)) : List κ := kvs.map (·.1)
theorem keys_dE' {κ β : Type} {ek : κ → D} {ev : β → D} (kvs : List (κ × β)) : keysOf (dE ek ev kvs) = (keys kvs).map ek := by
  unfold keysOf dE keys
  rw [List.map_map, List.map_map]
  rfl
theorem keys_length {κ β : Type} (kvs : List (κ × β)) : (keys kvs).length = kvs.length := by unfold keys; rw [List.length_map]
theorem strs_map (xs : List String) : strsD (xs.map D.str) = some xs := by
  induction xs with
  | nil => rfl
  | cons x xs ih => simp [strsD, ih]
theorem ints_map (xs : List Int) : intsD (xs.map D.int) = some xs := by
  induction xs with
  | nil => rfl
  | cons x xs ih => simp [intsD, ih]
theorem strs_some {α : Type} (g : α → String) (xs : List α) : strsD (xs.map fun a => .str (g a)) = some (xs.map g) := by
  have := strs_map (xs.map g)
  rwa [List.map_map] at this
theorem ints_some {α : Type} (g : α → Int) (xs : List α) : intsD (xs.map fun a => .int (g a)) = some (xs.map g) := by
  have := ints_map (xs.map g)
  rwa [List.map_map] at this
/-- texts in their order -/
def sortS (xs : List String) : List String := xs.mergeSort fun a b => decide (codes a ≤ codes b)
def sortI (xs : List Int) : List Int := xs.mergeSort fun a b => decide (a ≤ b)
theorem sort_str (xs : List String) : sortD (xs.map D.str) = (sortS xs).map D.str := by
  unfold sortD sortS
  rw [List.map_mergeSort]
  intro a _ b _
  have h := congrFun (congrFun (PySem.W.dataLe_str (β := String) fun x => PySem.Str.ofString x) a) b
  have e : (PySem.W.dataLe false D.pd (.str a) (.str b)) = PySem.W.dataLe false (fun x : String => PySem.PyData.str (PySem.Str.ofString x)) a b := rfl
  rw [e, h, PySem.Str.ofString_eq_toList]
  rw [PySem.Str.ofString_eq_toList]
  rfl
theorem sort_int (xs : List Int) : sortD (xs.map D.int) = (sortI xs).map D.int := by
  unfold sortD sortI
  rw [List.map_mergeSort]
  intro a _ b _
  exact (congrFun (congrFun (PySem.W.dataLe_int (β := Int) fun x => x) a) b).symm
theorem map_inj {α β : Type} {f : α → β} (hf : ∀ a b, f a = f b → a = b) : ∀ {xs ys : List α}, xs.map f = ys.map f → xs = ys
  | [], [], _ => rfl
  | [], _ :: _, h => by cases h
  | _ :: _, [], h => by cases h
  | x :: xs, y :: ys, h => by
    rw [List.map_cons, List.map_cons, List.cons.injEq] at h
    rw [hf _ _ h.1, map_inj hf h.2]
theorem codes_inj' {a b : String} (h : codes a = codes b) : a = b :=
  String.toList_inj.mp (map_inj (fun c d (e : c.toNat = d.toNat) => Char.toNat_inj.mp e) h)
theorem codes_le_trans {a b c : String} (h1 : codes a ≤ codes b) (h2 : codes b ≤ codes c) : codes a ≤ codes c := List.le_trans h1 h2
theorem codes_le_total (a b : String) : codes a ≤ codes b ∨ codes b ≤ codes a := List.le_total _ _
def SLt (a b : String) : Prop := codes a < codes b
theorem sortS_perm (xs : List String) : (sortS xs).Perm xs := List.mergeSort_perm _ _
theorem sortI_perm (xs : List Int) : (sortI xs).Perm xs := List.mergeSort_perm _ _
theorem sortS_sorted (xs : List String) : (sortS xs).Pairwise fun a b => codes a ≤ codes b := by
  have := List.pairwise_mergeSort (le := fun a b => decide (codes a ≤ codes b)) (by intro a b c h1 h2; simp only [decide_eq_true_eq] at *; exact List.le_trans h1 h2) (by intro a b; simp only [Bool.or_eq_true, decide_eq_true_eq]; exact List.le_total _ _) xs
  exact this.imp fun h => of_decide_eq_true h
theorem sortI_sorted (xs : List Int) : (sortI xs).Pairwise fun a b => a ≤ b := by
  have := List.pairwise_mergeSort (le := fun a b : Int => decide (a ≤ b)) (by intro a b c h1 h2; simp only [decide_eq_true_eq] at *; omega) (by intro a b; simp only [Bool.or_eq_true, decide_eq_true_eq]; omega) xs
  exact this.imp fun h => of_decide_eq_true h
theorem sortS_lt {xs : List String} (h : xs.Nodup) : (sortS xs).Pairwise fun a b => codes a < codes b := by
  have hn : (sortS xs).Nodup := (sortS_perm xs).nodup_iff.mpr h
  have := (sortS_sorted xs).and hn
  refine this.imp fun ⟨h1, h2⟩ => ?_
  exact List.not_le.mp fun h => h2 (codes_inj' (List.le_antisymm h1 h))
theorem sortI_lt {xs : List Int} (h : xs.Nodup) : (sortI xs).Pairwise fun a b => a < b := by
  have hn : (sortI xs).Nodup := (sortI_perm xs).nodup_iff.mpr h
  have := (sortI_sorted xs).and hn
  exact this.imp fun ⟨h1, h2⟩ => by omega
theorem rng1 {j : Int} (h : j ≤ 1000000) (h0 : 0 ≤ j) : rngD [.int j] = some ((List.range j.toNat).map fun (k : Nat) => .int k) := by
  show (if j ≤ ((16777216 : Nat) : Int) ∧ -(2 ^ 60) ≤ j then _ else _) = _
  rw [if_pos (by omega)]
@[simp] theorem le_big {n : Nat} (h : n ≤ 16777216) : n ≤ big := h
@[simp] theorem lt_big {n : Nat} (h : n < 16777216) : n < big := h
@[simp] theorem le_bigI {n : Int} (h : n ≤ 16777216) : n ≤ (big : Int) := h
@[simp] theorem mkDct_nil : mkDct [] [] = some [] := id rfl
@[simp] theorem mkDct_cons (k v : D) (ks vs : List D) : mkDct (k :: ks) (v :: vs) = if keyOk k then (mkDct ks vs).map ((k, v) :: ·) else none := id rfl
@[simp] theorem key_s (x : String) : keyOk (.str x) = true := id rfl
@[simp] theorem key_i (x : Int) : keyOk (.int x) = true := id rfl
theorem ite_pr {α : Type} {P : α → Prop} {c : Prop} [Decidable c] {a b : α} (ha : P a) (hb : P b) : P (if c then a else b) := by split <;> assumption
theorem idx2i (a b i : Int) (h0 : 0 ≤ i) (h1 : i < 2) : idxD (.lst [.int a, .int b]) (.int i) = some (.int (if i = 0 then a else b)) := by
  have : i = 0 ∨ i = 1 := by omega
  rcases this with rfl | rfl <;> rfl
theorem idx_get (xs : List D) (i : Int) (h0 : 0 ≤ i) (h1 : i < xs.length) : idxD (.lst xs) (.int i) = some (xs.getD i.toNat .non) := by
  have : i.toNat < xs.length := by omega
  rw [idx_l]
  simp [place, h0, h1, this, List.getD_eq_getElem?_getD]
theorem idx_gets (xs : List String) (i : Int) (h0 : 0 ≤ i) (h1 : i < xs.length) : idxD (.lst (xs.map D.str)) (.int i) = some (.str (xs.getD i.toNat "")) := by
  have : i.toNat < xs.length := by omega
  rw [idx_l]
  simp [place, h0, h1, this, List.getD_eq_getElem?_getD]
theorem idx_geti (xs : List Int) (i : Int) (h0 : 0 ≤ i) (h1 : i < xs.length) : idxD (.lst (xs.map D.int)) (.int i) = some (.int (xs.getD i.toNat 0)) := by
  have : i.toNat < xs.length := by omega
  rw [idx_l]
  simp [place, h0, h1, this, List.getD_eq_getElem?_getD]
/-! plain data of bounded size -/
mutual
/-- plain data of bounded size -/
def okD (b : Nat) : D → Bool
  | .non => true
  | .bl _ => true
  | .int _ => true
  | .str x => decide (x.length ≤ b) && x.toList.all fun c => decide (c.toNat < 128)
  | .tup xs => decide (xs.length ≤ b) && okDs b xs
  | .lst xs => decide (xs.length ≤ b) && okDs b xs
  | _ => false
def okDs (b : Nat) : List D → Bool
  | [] => true
  | x :: xs => okD b x && okDs b xs
end
mutual
theorem okD_flat {b : Nat} : ∀ {d : D}, okD b d = true → d.flat = true
  | .non, _ => rfl
  | .bl _, _ => rfl
  | .int _, _ => rfl
  | .str _, _ => rfl
  | .tup xs, h => by
    simp only [okD, Bool.and_eq_true] at h
    rw [D.flat]
    exact okDs_flat h.2
  | .lst xs, h => by
    simp only [okD, Bool.and_eq_true] at h
    rw [D.flat]
    exact okDs_flat h.2
  | .dct _, h => by simp [okD] at h
  | .scr _, h => by simp [okD] at h
  | .ins _ _, h => by simp [okD] at h
theorem okDs_flat {b : Nat} : ∀ {xs : List D}, okDs b xs = true → D.flats xs = true
  | [], _ => rfl
  | x :: xs, h => by
    simp only [okDs, Bool.and_eq_true] at h
    rw [D.flats, okD_flat h.1, okDs_flat h.2]
    rfl
end
theorem okD_tup {b : Nat} {xs : List D} (h : okD b (.tup xs) = true) : xs.length ≤ b ∧ okDs b xs = true := by
  simp only [okD, Bool.and_eq_true, decide_eq_true_eq] at h
  exact h
theorem okDs_mem {b : Nat} : ∀ {xs : List D}, okDs b xs = true → ∀ x ∈ xs, okD b x = true
  | [], _, x, m => by cases m
  | y :: ys, h, x, m => by
    simp only [okDs, Bool.and_eq_true] at h
    rcases List.mem_cons.mp m with rfl | m
    · exact h.1
    · exact okDs_mem h.2 x m
theorem okDs_of {b : Nat} : ∀ {xs : List D}, (∀ x ∈ xs, okD b x = true) → okDs b xs = true
  | [], _ => rfl
  | y :: ys, h => by
    rw [okDs, h y (by simp), okDs_of fun x hx => h x (by simp [hx])]
    rfl
theorem okD_tupOf {b : Nat} {xs : List D} (h : xs.length ≤ b) (h2 : ∀ x ∈ xs, okD b x = true) : okD b (.tup xs) = true := by
  simp only [okD, Bool.and_eq_true, decide_eq_true_eq]
  exact ⟨h, okDs_of h2⟩
theorem okD_lstOf {b : Nat} {xs : List D} (h : xs.length ≤ b) (h2 : ∀ x ∈ xs, okD b x = true) : okD b (.lst xs) = true := by
  simp only [okD, Bool.and_eq_true, decide_eq_true_eq]
  exact ⟨h, okDs_of h2⟩
theorem okD_lst {b : Nat} {xs : List D} (h : okD b (.lst xs) = true) : xs.length ≤ b ∧ okDs b xs = true := by
  simp only [okD, Bool.and_eq_true, decide_eq_true_eq] at h
  exact h
mutual
theorem okD_mono {b c : Nat} (hbc : b ≤ c) : ∀ {d : D}, okD b d = true → okD c d = true
  | .non, _ => rfl
  | .bl _, _ => rfl
  | .int _, _ => rfl
  | .str _, h => by
    simp only [okD, Bool.and_eq_true, decide_eq_true_eq] at h ⊢
    exact ⟨Nat.le_trans h.1 hbc, h.2⟩
  | .tup xs, h => by
    simp only [okD, Bool.and_eq_true, decide_eq_true_eq] at h ⊢
    exact ⟨Nat.le_trans h.1 hbc, okDs_mono hbc h.2⟩
  | .lst xs, h => by
    simp only [okD, Bool.and_eq_true, decide_eq_true_eq] at h ⊢
    exact ⟨Nat.le_trans h.1 hbc, okDs_mono hbc h.2⟩
  | .dct _, h => by simp [okD] at h
  | .scr _, h => by simp [okD] at h
  | .ins _ _, h => by simp [okD] at h
theorem okDs_mono {b c : Nat} (hbc : b ≤ c) : ∀ {xs : List D}, okDs b xs = true → okDs c xs = true
  | [], _ => rfl
  | x :: xs, h => by
    simp only [okDs, Bool.and_eq_true] at h ⊢
    exact ⟨okD_mono hbc h.1, okDs_mono hbc h.2⟩
end
theorem dep_tup (xs : List D) : (D.tup xs).dep = D.deps xs + 1 := by simp [D.dep]
theorem dep_lst (xs : List D) : (D.lst xs).dep = D.deps xs + 1 := by simp [D.dep]
theorem deps_le {k : Nat} : ∀ {xs : List D}, D.deps xs ≤ k ↔ ∀ x ∈ xs, D.dep x ≤ k
  | [] => by simp [D.deps]
  | x :: xs => by
    rw [D.deps, Nat.max_le, deps_le (xs := xs)]
    simp
theorem getD_all {α : Type} {P : α → Prop} {xs : List α} {i : Nat} {d : α} (h : ∀ x ∈ xs, P x) (hd : P d) : P (xs.getD i d) := by
  rw [List.getD_eq_getElem?_getD]
  cases e : xs[i]? with
  | none => exact hd
  | some x => exact h x (List.mem_of_getElem? e)
theorem getD_mem {α : Type} {xs : List α} {i : Nat} {d : α} (h : i < xs.length) : xs.getD i d ∈ xs := by
  rw [List.getD_eq_getElem?_getD, List.getElem?_eq_getElem h]
  exact List.getElem_mem _
end Ti
namespace Ti
mutual
theorem eqv_refl : ∀ {d : D}, d.flat = true → D.eqv d d = true
  | .non, _ => by rw [D.eqv]
  | .bl _, _ => by rw [D.eqv]; simp
  | .int _, _ => by rw [D.eqv]; simp
  | .str _, _ => by rw [D.eqv]; simp
  | .tup xs, h => by
    rw [D.flat] at h
    rw [D.eqv]
    exact eqvs_refl h
  | .lst xs, h => by
    rw [D.flat] at h
    rw [D.eqv]
    exact eqvs_refl h
  | .dct _, h => by simp [D.flat] at h
  | .scr _, h => by simp [D.flat] at h
  | .ins _ _, h => by simp [D.flat] at h
theorem eqvs_refl : ∀ {xs : List D}, D.flats xs = true → D.eqvs xs xs = true
  | [], _ => by rw [D.eqvs]
  | x :: xs, h => by
    simp only [D.flats, Bool.and_eq_true] at h
    rw [D.eqvs, eqv_refl h.1, eqvs_refl h.2]
    rfl
end
theorem cmp_eq_self {b : Nat} {d : D} (h : okD b d = true) (h2 : d.dep ≤ 60) : cmpD .eq d d = some true := by
  rw [cmp_eq, if_pos ⟨okD_flat h, okD_flat h, by omega⟩, eqv_refl (okD_flat h)]
theorem cmp_ne_self {b : Nat} {d : D} (h : okD b d = true) (h2 : d.dep ≤ 60) : cmpD .ne d d = some false := by
  rw [cmp_ne, if_pos ⟨okD_flat h, okD_flat h, by omega⟩, eqv_refl (okD_flat h)]
  rfl
/-- a dict of pairs whose keys are unlike -/
theorem fold_aput {κ β : Type} [DecidableEq κ] : ∀ (c acc : List (κ × β)), ((acc ++ c).map (·.1)).Nodup → c.foldl (fun acc p => aput acc p.1 p.2) acc = acc ++ c
  | [], acc, _ => by simp
  | p :: c, acc, h => by
    have e : aput acc p.1 p.2 = acc ++ [p] := by
      unfold aput
      rw [if_neg]
      intro q
      obtain ⟨r, hr, er⟩ := List.any_eq_true.mp q
      have er := of_decide_eq_true er
      rw [List.map_append, List.nodup_append] at h
      exact h.2.2 r.1 (List.mem_map.mpr ⟨r, hr, rfl⟩) p.1 (by simp) er
    rw [List.foldl_cons, e, fold_aput c (acc ++ [p]) (by rw [List.append_assoc]; exact h), List.append_assoc]
    rfl
theorem fold_putD {κ β : Type} [DecidableEq κ] {ek : κ → D} {ev : β → D} (hk : KeyE ek) : ∀ (c acc : List (κ × β)), (c.map fun p => (ek p.1, ev p.2)).foldl (fun acc p => putD acc p.1 p.2) (dE ek ev acc) = dE ek ev (c.foldl (fun acc p => aput acc p.1 p.2) acc)
  | [], _ => rfl
  | p :: c, acc => by
    rw [List.map_cons, List.foldl_cons, List.foldl_cons]
    show List.foldl _ (putD (dE ek ev acc) (ek p.1) (ev p.2)) _ = _
    rw [put_dE hk, fold_putD hk]
theorem pairs_map {κ β : Type} {ek : κ → D} {ev : β → D} (hk : ∀ k, keyOk (ek k) = true) : ∀ (c : List (κ × β)), pairsD (c.map fun p => .tup [ek p.1, ev p.2]) = some (c.map fun p => (ek p.1, ev p.2))
  | [] => rfl
  | p :: c => by
    rw [List.map_cons, pairsD, if_pos (hk _), pairs_map hk c]
    rfl
theorem dict_nodup {κ β : Type} [DecidableEq κ] {ek : κ → D} {ev : β → D} (hk : KeyE ek) (hk2 : ∀ k, keyOk (ek k) = true) {c : List (κ × β)} (h : (c.map (·.1)).Nodup) : ((pairsD (c.map fun p => .tup [ek p.1, ev p.2])).map fun ps => ((1 : Nat), D.dct (ps.foldl (fun acc p => putD acc p.1 p.2) []))) = some (1, .dct (dE ek ev c)) := by
  rw [pairs_map hk2]
  show some (1, D.dct (List.foldl _ (dE ek ev []) _)) = _
  rw [fold_putD hk, fold_aput c [] (by simpa using h)]
  rfl
theorem lt_nodup {xs : List String} (h : xs.Pairwise fun a b => codes a < codes b) : xs.Nodup := h.imp fun {a b} hab e => by
  subst e
  exact List.lt_irrefl _ hab
theorem ilt_nodup {xs : List Int} (h : xs.Pairwise fun a b => a < b) : xs.Nodup := h.imp fun {a b} hab e => by
  subst e
  omega
theorem bm_get (kvs : List (D × D)) (k v : D) : bmD .get (.dct kvs) [k, v] = if keyOk k = true ∧ solid 1 v = true then some (0, (lookD kvs k).getD v) else none := rfl
theorem okD_str {b : Nat} {x : String} (h : okD b (.str x) = true) : x.length ≤ b ∧ ∀ c ∈ x.toList, c.toNat < 128 := by
  simp only [okD, Bool.and_eq_true, decide_eq_true_eq, List.all_eq_true] at h
  exact h
theorem okD_strOf {b : Nat} {x : String} (h : x.length ≤ b) (h2 : ∀ c ∈ x.toList, c.toNat < 128) : okD b (.str x) = true := by
  simp only [okD, Bool.and_eq_true, decide_eq_true_eq, List.all_eq_true]
  exact ⟨h, h2⟩
theorem okD_app {b c : Nat} {x y : String} (h : okD b (.str x) = true) (h2 : okD c (.str y) = true) : okD (b + c) (.str (x ++ y)) = true := by
  have h := okD_str h
  have h2 := okD_str h2
  refine okD_strOf (by rw [String.length_append]; omega) fun c hc => ?_
  rw [String.toList_append, List.mem_append] at hc
  exact hc.elim (h.2 c) (h2.2 c)
theorem eqv_str (a b : String) : D.eqv (.str a) (.str b) = (a == b) := by rw [D.eqv]
@[simp] theorem cmp_eq_str (a b : String) : cmpD .eq (.str a) (.str b) = some (a == b) := by
  rw [cmp_eq, if_pos ⟨rfl, rfl, by simp [D.dep]⟩, eqv_str]
@[simp] theorem cmp_ne_str (a b : String) : cmpD .ne (.str a) (.str b) = some (!(a == b)) := by
  rw [cmp_ne, if_pos ⟨rfl, rfl, by simp [D.dep]⟩, eqv_str]
/-- a for that looks for the first -/
theorem forGo_find {α : Type} {h : α → D} {f : D → Sl → Out} {p : α → Bool} {i k : Nat} {g : α → D} {s : Sl} : ∀ {as : List α} {v : Slot}, (∀ a ∈ as, ∀ v, f (h a) (s.set i v) = if p a = true then .ret k (g a) (s.set i (.bo 0 (h a))) else .nx (s.set i (.bo 0 (h a)))) →
    ∃ w, (w = v ∨ ∃ x, w = .bo 0 x) ∧ forGo f (as.map h) (s.set i v) = match as.find? p with
      | some a => .ret k (g a) (s.set i w)
      | none => .nx (s.set i w)
  | [], v, _ => ⟨v, .inl rfl, rfl⟩
  | a :: as, v, hh => by
    cases hp : p a with
    | true => exact ⟨.bo 0 (h a), .inr ⟨_, rfl⟩, by simp only [List.map_cons, forGo, hh a (by simp), hp, if_true, List.find?_cons]⟩
    | false =>
      obtain ⟨w, q, e⟩ := forGo_find (as := as) (v := .bo 0 (h a)) fun b hb => hh b (by simp [hb])
      exact ⟨w, .inr (q.elim (fun h' => ⟨h a, h'⟩) id), by simp only [List.map_cons, forGo, hh a (by simp), hp, Bool.false_eq_true, if_false, List.find?_cons, e]⟩
theorem flats_ints (L : List Int) : D.flats (L.map D.int) = true := by
  induction L with
  | nil => rfl
  | cons x L ih => rw [List.map_cons, D.flats, ih]; rfl
theorem eq_nil_ints (L : List Int) : cmpD .eq (.lst (L.map D.int)) (.lst []) = some L.isEmpty := by
  rw [eq_nil (flats_ints L)]
  cases L <;> rfl
theorem ne_of_eq {a b : D} {x : Bool} (h : cmpD .eq a b = some x) : cmpD .ne a b = some (!x) := by
  rw [cmp_eq] at h
  rw [cmp_ne]
  split at h
  · rename_i q
    rw [if_pos q]
    cases h
    rfl
  · rename_i q
    rw [if_neg q, h]
    rfl
theorem solid_str (k : Nat) (x : String) : solid k (.str x) = true := by cases k <;> rfl
theorem solid_int (k : Nat) (x : Int) : solid k (.int x) = true := by cases k <;> rfl
theorem solid_bl (k : Nat) (x : Bool) : solid k (.bl x) = true := by cases k <;> rfl
theorem solid_non (k : Nat) : solid k .non = true := by cases k <;> rfl
@[simp] theorem fit_str (k : Nat) (x : String) : (RV.ow 0 (.str x)).fit k = some (.str x) := by simp [RV.fit, solid_str]
@[simp] theorem fit_int (k : Nat) (x : Int) : (RV.ow 0 (.int x)).fit k = some (.int x) := by simp [RV.fit, solid_int]
@[simp] theorem fit_bl (k : Nat) (x : Bool) : (RV.ow 0 (.bl x)).fit k = some (.bl x) := by simp [RV.fit, solid_bl]
@[simp] theorem fit_non (k : Nat) : (RV.ow 0 .non).fit k = some .non := by simp [RV.fit, solid_non]
@[simp] theorem fit_tup1 (xs : List D) : (RV.ow 0 (.tup xs)).fit 1 = some (.tup xs) := by simp [RV.fit, solid]
end Ti
end

section
/-! sorted, plainly -/
namespace Ti
local instance pw0 : PWc := ⟨none⟩
open PySem.W
theorem evSs_app (cf : Nat → List Ti.Arg → Rs) (io : List Nat) (n : Nat) : ∀ (a b : List S) (s : Sl), evSs cf io n (a ++ b) s = (evSs cf io n a s).bind (evSs cf io n b)
  | [], b, s => by
    rw [List.nil_append, evSs]
    rfl
  | x :: a, b, s => by
    rw [List.cons_append, evSs, evSs]
    cases evS cf io n x s with
    | nx s1 => exact evSs_app cf io n a b s1
    | _ => rfl
theorem filter_map {α β : Type} (f : α → β) (p : α → Bool) : ∀ L : List α, (L.filter p).map f = L.filterMap fun b => if p b = true then some (f b) else none
  | [] => rfl
  | a :: L => by
    rw [List.filter_cons, List.filterMap_cons]
    cases p a <;> simp [filter_map f p L]
def leD (a b : D) : Bool := dataLe false D.pd a b
def ltD (a b : D) : Bool := dataLt a.pd b.pd
theorem leD_lt (a b : D) : leD a b = !ltD b a := rfl
theorem leD_total (a b : D) : leD a b = true ∨ leD b a = true := by
  rw [leD_lt, leD_lt]
  cases h : ltD b a with
  | false => exact .inl rfl
  | true =>
    right
    cases h2 : ltD a b with
    | false => rfl
    | true => exact absurd ((PyProof.Rows.lex_trans (O := PyProof.Rows.itemOrd) _ _ _ h h2).symm.trans (PyProof.Rows.lex_irrefl _)) (by simp)
theorem leD_trans (a b c : D) (h1 : leD a b = true) (h2 : leD b c = true) : leD a c = true := by
  rw [leD_lt, Bool.not_eq_true'] at *
  cases h : ltD c a with
  | false => rfl
  | true =>
    rcases PyProof.Rows.lex_negTrans (O := PyProof.Rows.itemOrd) _ (keyToks b.pd) _ h with q | q
    · exact absurd (h2.symm.trans q) (by simp)
    · exact absurd (h1.symm.trans q) (by simp)
theorem leD_refl (a : D) : leD a a = true := by
  rw [leD_lt]
  show (!dataLt a.pd a.pd) = true
  have : dataLt a.pd a.pd = false := PyProof.Rows.lex_irrefl _
  rw [this]
  rfl
theorem toks_of_le {a b : D} (h1 : leD a b = true) (h2 : leD b a = true) : keyToks a.pd = keyToks b.pd := by
  rw [leD_lt, Bool.not_eq_true'] at *
  exact PyProof.Rows.lex_total (O := PyProof.Rows.itemOrd) _ _ h2 h1
mutual
theorem eq_of_eqv : ∀ {a b : D}, D.alk a b = true → D.eqv a b = true → a = b
  | .non, b, h, e => by cases b <;> simp_all [D.alk]
  | .bl x, b, h, e => by cases b <;> simp_all [D.alk, D.eqv]
  | .int x, b, h, e => by cases b <;> simp_all [D.alk, D.eqv]
  | .str x, b, h, e => by cases b <;> simp_all [D.alk, D.eqv]
  | .tup xs, b, h, e => by
    cases b with
    | tup ys =>
      rw [D.alk] at h
      rw [D.eqv] at e
      rw [eq_of_eqvs h e]
    | _ => simp_all [D.alk]
  | .lst xs, b, h, e => by
    cases b with
    | lst ys =>
      rw [D.alk] at h
      rw [D.eqv] at e
      rw [eq_of_eqvs h e]
    | _ => simp_all [D.alk]
  | .dct _, b, h, e => by simp [D.alk] at h
  | .scr _, b, h, e => by simp [D.alk] at h
  | .ins _ _, b, h, e => by simp [D.alk] at h
theorem eq_of_eqvs : ∀ {a b : List D}, D.alks a b = true → D.eqvs a b = true → a = b
  | [], [], _, _ => rfl
  | [], _ :: _, _, e => by simp [D.eqvs] at e
  | _ :: _, [], _, e => by simp [D.eqvs] at e
  | x :: xs, y :: ys, h, e => by
    simp only [D.alks, Bool.and_eq_true] at h
    simp only [D.eqvs, Bool.and_eq_true] at e
    rw [eq_of_eqv h.1 e.1, eq_of_eqvs h.2 e.2]
end
theorem eqv_of_toks {x y : PySem.PyData} (h : alike x y = true) (e : keyToks x = keyToks y) : PySem.PyData.eqv x y = true := by
  cases q : PySem.PyData.eqv x y with
  | true => rfl
  | false =>
    have g := (toks_eqv x y h).2 q [] [.inl 0]
    rw [e, PyProof.Rows.lex_irrefl] at g
    have g2 : PyProof.Rows.lexLt PyProof.Rows.itemOrd (keyToks y ++ []) (keyToks y ++ [.inl 0]) = PyProof.Rows.lexLt PyProof.Rows.itemOrd [] [Sum.inl 0] := lex_pre _ _ _
    rw [g2] at g
    exact absurd g (by decide)
theorem leD_antisymm {a b : D} (ha : a.flat = true) (hb : b.flat = true) (hk : D.alk a b = true) (h1 : leD a b = true) (h2 : leD b a = true) : a = b :=
  eq_of_eqv hk (by rw [← D.eqv_pd a b ha hb]; exact eqv_of_toks (alk_pd a b ha hk) (toks_of_le h1 h2))
theorem sortD_perm (xs : List D) : (sortD xs).Perm xs := List.mergeSort_perm _ _
theorem sortD_sorted (xs : List D) : (sortD xs).Pairwise fun a b => leD a b = true :=
  List.pairwise_mergeSort (fun a b c h1 h2 => leD_trans a b c h1 h2) (fun a b => by
    have := leD_total a b
    simpa [leD] using this) xs
/-- alike, no dict within -/
def Alks (xs : List D) : Prop := ∀ x ∈ xs, x.flat = true ∧ ∀ y ∈ xs, D.alk x y = true
theorem sortD_eq {xs ys : List D} (hp : ys.Perm xs) (hs : ys.Pairwise fun a b => leD a b = true) (ha : Alks xs) : sortD xs = ys := by
  refine List.Perm.eq_of_pairwise (le := fun a b => leD a b = true) (fun a b m1 m2 h1 h2 => ?_) (sortD_sorted xs) hs ((sortD_perm xs).trans hp.symm)
  have m1' := (sortD_perm xs).mem_iff.mp m1
  have m2' := hp.mem_iff.mp m2
  exact leD_antisymm (ha a m1').1 (ha b m2').1 ((ha a m1').2 b m2') h1 h2
theorem sortD_congr {xs ys : List D} (hp : xs.Perm ys) (ha : Alks xs) : sortD xs = sortD ys :=
  sortD_eq ((sortD_perm ys).trans hp.symm) (sortD_sorted ys) ha
theorem sortOk_of {xs : List D} (ha : Alks xs) (hd : ∀ x ∈ xs, x.dep ≤ 60) (ht : (∀ x ∈ xs, isTup1 x = true) ∨ ∀ x ∈ xs, noTup x = true) : sortOk xs = true := by
  unfold sortOk
  simp only [Bool.and_eq_true, List.all_eq_true, decide_eq_true_eq, Bool.or_eq_true]
  exact ⟨⟨fun x hx y hy => .inl ((ha x hx).2 y hy), fun x hx => ⟨(ha x hx).1, hd x hx⟩⟩, ht⟩
/-- tuples: the first items decide, where they differ -/
theorem ltD_tup {x y : D} {xs ys : List D} (hx : x.flat = true) (hy : y.flat = true) (hk : D.alk x y = true) : ltD (.tup (x :: xs)) (.tup (y :: ys)) = if D.eqv x y = true then ltD (.tup xs) (.tup ys) else ltD x y := by
  unfold ltD
  simp only [D.pd, dataLt_tuple, D.pds]
  rw [dataLt_cons (alk_pd x y hx hk), D.eqv_pd x y hx hy]
theorem ltD_int (i j : Int) : ltD (.int i) (.int j) = decide (i < j) := by
  unfold ltD
  simp only [D.pd]
  exact dataLt_int i j
theorem ltD_str (a b : String) : ltD (.str a) (.str b) = decide (codes a < codes b) := by
  unfold ltD
  simp only [D.pd]
  rw [dataLt_str, cps_of, cps_of]
theorem ltD_self (a : D) : ltD a a = false := PyProof.Rows.lex_irrefl _
theorem leD_int1 {i j : Int} {xs ys : List D} (h : i < j) : leD (.tup (.int i :: xs)) (.tup (.int j :: ys)) = true := by
  rw [leD_lt, ltD_tup rfl rfl rfl, eqv_int]
  have h1 : (j == i) = false := by
    have : ¬ j = i := by omega
    simpa using this
  have h2 : ¬ j < i := by omega
  rw [h1, if_neg (by simp), ltD_int]
  simp [h2]
theorem le_int1 {i j : Int} {xs ys : List D} (h : leD (.tup (.int i :: xs)) (.tup (.int j :: ys)) = true) : i ≤ j := by
  by_cases hij : i ≤ j
  · exact hij
  · have := leD_int1 (xs := ys) (ys := xs) (show j < i by omega)
    rw [leD_lt, ltD_tup rfl rfl rfl, eqv_int] at h
    have h1 : (j == i) = false := by
      have : ¬ j = i := by omega
      simpa using this
    rw [h1, if_neg (by simp), ltD_int] at h
    have h2 : j < i := by omega
    simp [h2] at h
end Ti
end

namespace Law
open PySem L2 Ti
def top (i : Nat) : Stmt := PySem.Challenge.pw_toybags_k13_lacks_and_houses.main.body.getD i (.Pass ⟨0, 0, 0, 0⟩)
def cst (i j : Nat) : Stmt := (C8.clsBody (top i)).getD j (.Pass ⟨0, 0, 0, 0⟩)
abbrev i_Life___init__ : Nat := 0
abbrev i_Life_fault_of : Nat := 1
abbrev i_Life_go : Nat := 2
abbrev i_Life_count : Nat := 3
abbrev i_life_of : Nat := 4
abbrev i_lacks : Nat := 5
abbrev i_surely : Nat := 6
abbrev i_perhaps : Nat := 7
abbrev i__law_draw : Nat := 8
abbrev i__law_any_order : Nat := 9
abbrev i__law_a_name : Nat := 10
abbrev i__law_a_kind : Nat := 11
abbrev i__law_a_make : Nat := 12
abbrev i__law_a_makes : Nat := 13
abbrev i__law_some_contents : Nat := 14
abbrev i__law_a_shelf : Nat := 15
abbrev i__law_make_of : Nat := 16
abbrev i__law_pages : Nat := 17
abbrev i__law_fewer : Nat := 18
abbrev i__law_setting : Nat := 19
abbrev i__law_gone : Nat := 20
abbrev i_law : Nat := 21
def d_Life___init__ : Def := { np := 2, ns := 2, df := [], body := [(.fset 0 "Life" "contents" (.var 1)),
    (.fset 0 "Life" "house" (.con .non)),
    (.fset 0 "Life" "since" (.lst 3 [])),
    (.fset 0 "Life" "wrong" (.lst 3 [])),
    (.fset 0 "Life" "missing" (.lst 3 [])),
    (.fset 0 "Life" "lendings" (.lst 3 []))] }
def d_Life_fault_of : Def := { np := 2, ns := 2, df := [], body := [(.ite (.cmp .eq (.idx (.var 1) (.con (.int 0))) (.con (.str "back"))) [(.ret (.ite (.cmp .isn (.fld "Life" (.var 0) "house") (.con .non)) (.con (.str "in")) (.con .non)))] []),
    (.ite (.cmp .isn (.fld "Life" (.var 0) "house") (.con .non)) [(.ret (.con .non))] []),
    (.ret (.ite (.cmp .eq (.idx (.var 1) (.con (.int 0))) (.con (.str "lent"))) (.con (.str "out")) (.con (.str "away"))))] }
def d_Life_go : Def := { np := 2, ns := 3, df := [], body := [(.asg 2 0 (.meth "Life" "fault_of" i_Life_fault_of [(.var 0), (.var 1)])),
    (.ite (.cmp .nsn (.var 2) (.con .non)) [(.app 0 [(.fk "Life" "wrong")] (.tup 2 [(.idx (.var 1) (.con (.int 1))), (.var 1), (.var 2)]))] [(.ite (.cmp .eq (.idx (.var 1) (.con (.int 0))) (.con (.str "back"))) [(.fset 0 "Life" "house" (.con .non))] [(.ite (.cmp .eq (.idx (.var 1) (.con (.int 0))) (.con (.str "lent"))) [(.fset 0 "Life" "house" (.idx (.var 1) (.con (.int 3)))),
    (.app 0 [(.fk "Life" "since")] (.idx (.var 1) (.con (.int 3)))),
    (.app 0 [(.fk "Life" "lendings")] (.tup 2 [(.idx (.var 1) (.con (.int 2))), (.idx (.var 1) (.con (.int 1))), (.idx (.var 1) (.con (.int 3)))]))] [(.ex (.meth "Life" "count" i_Life_count [(.io 0), (.var 1)]))])])])] }
abbrev b_Life_count_1 : List S := [(.ite (.cmp .lt (.bm .get (.var 2) [(.var 3), (.con (.int 0))]) (.var 4)) [(.app 0 [(.fk "Life" "missing")] (.tup 2 [(.idx (.var 1) (.con (.int 1))), (.idx (.var 1) (.con (.int 2))), (.var 3), (.bin .sub (.var 4) (.bm .get (.var 2) [(.var 3), (.con (.int 0))])), (.bi .sortset [(.fld "Life" (.var 0) "since")])]))] [])]
def d_Life_count : Def := { np := 2, ns := 5, df := [], body := [(.asg 2 0 (.bi .dict [(.idx (.var 1) (.con (.int 3)))])),
    (.for_ (.tp [(.nm 3), (.nm 4)]) (.fld "Life" (.var 0) "contents") b_Life_count_1),
    (.fset 0 "Life" "contents" (.idx (.var 1) (.con (.int 3)))),
    (.fset 0 "Life" "since" (.lst 3 []))] }
abbrev e_life_of_1 : E := (.var 9)
abbrev c_life_of_1 : Option E := (some (.cmp .eq (.idx (.var 9) (.con (.int 0))) (.var 2)))
abbrev e_life_of_2 : E := (.var 8)
abbrev c_life_of_2 : Option E := (some (.and (.cmp .ne (.idx (.var 8) (.con (.int 0))) (.con (.str "waits"))) (.cmp .eq (.idx (.var 8) (.con (.int 1))) (.var 2))))
abbrev e_life_of_3 : E := (.tup 0 [(.tup 0 [(.idx (.var 8) (.con (.int 2))), (.gix "WORDS" ["back", "counted", "lent"] (.idx (.var 8) (.con (.int 0))))]), (.var 8)])
abbrev b_life_of_1 : List S := [(.ite (.or (.cmp .isn (.var 3) (.con .non)) (.cmp .le (.idx (.var 7) (.con (.int 0))) (.var 3))) [(.ex (.meth "Life" "go" i_Life_go [(.io 5), (.var 8)]))] [])]
def d_life_of : Def := { np := 4, ns := 10, df := [], body := [(.asg 4 0 (.lc 1 e_life_of_1 (.nm 9) (.var 0) c_life_of_1)),
    (.ite (.cmp .eq (.var 4) (.lst 1 [])) [.never] []),
    (.asg 5 4 (.mk 4 "Life" i_Life___init__ [(.idx (.idx (.var 4) (.con (.int 0))) (.con (.int 2)))])),
    (.asg 6 0 (.lc 1 e_life_of_2 (.nm 8) (.var 1) c_life_of_2)),
    (.for_ (.tp [(.nm 7), (.nm 8)]) (.bi .sorted [(.lc 1 e_life_of_3 (.nm 8) (.var 6) none)]) b_life_of_1),
    (.ret (.mv 5))] }
abbrev b_lacks_1 : List S := [(.extm 2 [] (.fld "Life" (.call i_life_of [(.var 0), (.var 1), (.idx (.var 3) (.con (.int 0))), (.con .non)]) "missing"))]
def d_lacks : Def := { np := 2, ns := 4, df := [], body := [(.asg 2 3 (.lst 3 [])),
    (.for_ (.nm 3) (.var 0) b_lacks_1),
    (.ret (.srt (.mv 2)))] }
abbrev e_surely_1 : E := (.var 3)
abbrev c_surely_1 : Option E := (some (.cmp .eq (.idx (.var 3) (.con (.int 4))) (.lst 1 [(.var 2)])))
def d_surely : Def := { np := 3, ns := 4, df := [], body := [(.ret (.lc 1 e_surely_1 (.nm 3) (.call i_lacks [(.var 0), (.var 1)]) c_surely_1))] }
abbrev e_perhaps_1 : E := (.var 3)
abbrev c_perhaps_1 : Option E := (some (.and (.cmp .gt (.bi .len [(.idx (.var 3) (.con (.int 4)))]) (.con (.int 1))) (.cmp .inn (.var 2) (.idx (.var 3) (.con (.int 4))))))
def d_perhaps : Def := { np := 3, ns := 4, df := [], body := [(.ret (.lc 1 e_perhaps_1 (.nm 3) (.call i_lacks [(.var 0), (.var 1)]) c_perhaps_1))] }
def d__law_draw : Def := { np := 2, ns := 5, df := [], body := [(.asg 2 0 (.con (.int 2305843009213693951))),
    (.ite (.cmp .lt (.idx (.var 0) (.con (.int 2))) (.var 1)) [(.asg 4 0 (.con (.int 0))),
    (.ite (.cmp .gt (.bi .len [(.idx (.var 0) (.con (.int 0)))]) (.con (.int 0))) [(.asg 4 0 (.idx (.idx (.var 0) (.con (.int 0))) (.bin .mod (.idx (.var 0) (.con (.int 1))) (.bi .len [(.idx (.var 0) (.con (.int 0)))]))))] []),
    (.ite (.or (.cmp .ge (.idx (.var 0) (.con (.int 1))) (.bi .len [(.idx (.var 0) (.con (.int 0)))])) (.cmp .lt (.var 4) (.bin .pow (.con (.int 10)) (.con (.int 18))))) [(.asg 4 0 (.bin .mod (.bin .add (.var 4) (.bin .mul (.con (.int 1000003)) (.idx (.var 0) (.con (.int 1))))) (.var 2))),
    (.asg 4 0 (.bin .mod (.bin .add (.bin .add (.bin .mul (.var 4) (.var 4)) (.bin .mul (.con (.int 1181783497276652981)) (.var 4))) (.con (.int 2049848353892358983))) (.var 2))),
    (.asg 4 0 (.bin .mod (.bin .add (.bin .mul (.var 4) (.var 4)) (.con (.int 1442695040888963407))) (.var 2)))] []),
    (.put 0 [] (.con (.int 1)) (.bin .add (.idx (.var 0) (.con (.int 1))) (.con (.int 1)))),
    (.put 0 [] (.con (.int 2)) (.var 4))] []),
    (.asg 3 0 (.bin .mod (.idx (.var 0) (.con (.int 2))) (.var 1))),
    (.put 0 [] (.con (.int 2)) (.bin .fdiv (.idx (.var 0) (.con (.int 2))) (.var 1))),
    (.ret (.var 3))] }
abbrev b__law_any_order_1 : List S := [(.ins 2 [] (.call i__law_draw [(.io 0), (.bin .add (.var 3) (.con (.int 1)))]) (.var 3))]
def d__law_any_order : Def := { np := 2, ns := 4, df := [], body := [(.asg 2 1 (.lst 1 [])),
    (.for_ (.nm 3) (.rng [(.var 1)]) b__law_any_order_1),
    (.ret (.bi .tuple [(.var 2)]))] }
abbrev e__law_a_name_1 : E := (.idx (.var 2) (.call i__law_draw [(.io 0), (.con (.int 26))]))
def d__law_a_name : Def := { np := 1, ns := 4, df := [], body := [(.asg 1 0 (.call i__law_draw [(.io 0), (.con (.int 6))])),
    (.ite (.cmp .lt (.var 1) (.con (.int 4))) [(.ret (.idx (.lst 1 [(.con (.str "ann")), (.con (.str "bo")), (.con (.str "cy")), (.con (.str "dan"))]) (.var 1)))] []),
    (.asg 2 0 (.con (.str "abcdefghijklmnopqrstuvwxyz"))),
    (.ret (.bm .join (.con (.str "")) [(.lc 1 e__law_a_name_1 (.nm 3) (.rng [(.idx (.lst 1 [(.con (.int 1)), (.con (.int 8))]) (.bin .sub (.var 1) (.con (.int 4))))]) none)]))] }
def d__law_a_kind : Def := { np := 1, ns := 1, df := [], body := [(.ret (.idx (.lst 1 [(.con (.str "block")), (.con (.str "card")), (.con (.str "die")), (.con (.str "peg")), (.con (.str "ring")), (.con (.str "wheel"))]) (.call i__law_draw [(.io 0), (.con (.int 6))])))] }
abbrev b__law_a_make_1 : List S := [(.asg 6 0 (.idx (.lst 1 [(.call i__law_draw [(.io 0), (.con (.int 30))]), (.call i__law_draw [(.io 0), (.con (.int 1001))])]) (.call i__law_draw [(.io 0), (.con (.int 2))]))),
    (.put 3 [] (.call i__law_a_kind [(.io 0)]) (.tup 0 [(.bin .add (.con (.int 1)) (.call i__law_draw [(.io 0), (.idx (.lst 1 [(.con (.int 3)), (.con (.int 20))]) (.bin .fdiv (.call i__law_draw [(.io 0), (.con (.int 4))]) (.con (.int 3))))])), (.var 6)]))]
abbrev e__law_a_make_1 : E := (.bin .add (.tup 0 [(.var 7)]) (.idx (.var 3) (.var 7)))
def d__law_a_make : Def := { np := 3, ns := 8, df := [], body := [(.asg 3 1 (.dct [] [])),
    (.for_ (.nm 4) (.rng [(.bin .add (.con (.int 1)) (.call i__law_draw [(.io 0), (.var 2)]))]) b__law_a_make_1),
    (.asg 5 0 (.idx (.lst 1 [(.call i__law_draw [(.io 0), (.con (.int 1000))]), (.call i__law_draw [(.io 0), (.bin .add (.bin .pow (.con (.int 10)) (.con (.int 6))) (.con (.int 1)))])]) (.call i__law_draw [(.io 0), (.con (.int 2))]))),
    (.ret (.tup 0 [(.var 1), (.var 5), (.bi .tuple [(.lc 1 e__law_a_make_1 (.nm 7) (.bi .sorted [(.var 3)]) none)])]))] }
abbrev e__law_a_makes_1 : E := (.call i__law_a_make [(.io 0), (.var 2), (.con (.int 5))])
def d__law_a_makes : Def := { np := 1, ns := 3, df := [], body := [(.asg 1 0 (.slc (.lst 1 [(.con (.str "cart")), (.con (.str "farm")), (.con (.str "game")), (.con (.str "horse"))]) none (some (.bin .add (.con (.int 1)) (.call i__law_draw [(.io 0), (.con (.int 4))]))))),
    (.ret (.bi .tuple [(.lc 1 e__law_a_makes_1 (.nm 2) (.var 1) none)]))] }
abbrev b__law_some_contents_1 : List S := [(.asg 6 0 (.bin .add (.var 4) (.idx (.lst 1 [(.con (.int 0)), (.con (.int 0)), (.con (.int 0)), (.neg (.con (.int 1))), (.neg (.con (.int 2))), (.con (.int 1)), (.neg (.con (.int 20)))]) (.call i__law_draw [(.io 0), (.con (.int 7))])))),
    (.ite (.cmp .gt (.var 6) (.con (.int 0))) [(.put 2 [] (.var 3) (.var 6))] [])]
abbrev e__law_some_contents_1 : E := (.tup 0 [(.var 3), (.idx (.var 2) (.var 3))])
def d__law_some_contents : Def := { np := 2, ns := 7, df := [], body := [(.asg 2 1 (.dct [] [])),
    (.for_ (.tp [(.nm 3), (.nm 4), (.nm 5)]) (.idx (.var 1) (.con (.int 2))) b__law_some_contents_1),
    (.ite (.cmp .eq (.call i__law_draw [(.io 0), (.con (.int 3))]) (.con (.int 0))) [(.put 2 [] (.call i__law_a_kind [(.io 0)]) (.bin .add (.con (.int 1)) (.call i__law_draw [(.io 0), (.idx (.lst 1 [(.con (.int 3)), (.con (.int 99))]) (.bin .fdiv (.call i__law_draw [(.io 0), (.con (.int 3))]) (.con (.int 2))))])))] []),
    (.ret (.bi .tuple [(.lc 1 e__law_some_contents_1 (.nm 3) (.bi .sorted [(.var 2)]) none)]))] }
abbrev b__law_a_shelf_1 : List S := [(.asg 5 0 (.idx (.var 1) (.call i__law_draw [(.io 0), (.bi .len [(.var 1)])]))),
    (.asg 6 0 (.idx (.lst 1 [(.bin .add (.con (.int 1)) (.call i__law_draw [(.io 0), (.con (.int 12))])), (.bin .add (.con (.int 1)) (.call i__law_draw [(.io 0), (.con (.int 999))]))]) (.bin .fdiv (.call i__law_draw [(.io 0), (.con (.int 3))]) (.con (.int 2))))),
    (.put 3 [] (.var 6) (.tup 0 [(.var 6), (.idx (.var 5) (.con (.int 0))), (.call i__law_some_contents [(.io 0), (.var 5)])]))]
abbrev e__law_a_shelf_1 : E := (.idx (.var 3) (.var 6))
def d__law_a_shelf : Def := { np := 3, ns := 7, df := [], body := [(.asg 3 1 (.dct [] [])),
    (.for_ (.nm 4) (.rng [(.call i__law_draw [(.io 0), (.bin .add (.var 2) (.con (.int 1)))])]) b__law_a_shelf_1),
    (.ret (.lc 1 e__law_a_shelf_1 (.nm 6) (.bi .sorted [(.var 3)]) none))] }
abbrev e__law_make_of_1 : E := (.var 2)
abbrev c__law_make_of_1 : Option E := (some (.cmp .eq (.idx (.var 2) (.con (.int 0))) (.var 1)))
def d__law_make_of : Def := { np := 2, ns := 3, df := [], body := [(.ret (.idx (.lc 1 e__law_make_of_1 (.nm 2) (.var 0) c__law_make_of_1) (.con (.int 0))))] }
abbrev b__law_pages_1 : List S := [(.asg 12 0 (.call i__law_draw [(.io 0), (.con (.int 9))])),
    (.ite (.cmp .lt (.var 12) (.con (.int 3))) [(.put 4 [] (.tup 0 [(.con (.str "lent")), (.var 6), (.var 9), (.call i__law_a_name [(.io 0)])]) (.con (.bl true)))] [(.ite (.cmp .lt (.var 12) (.con (.int 6))) [(.put 4 [] (.tup 0 [(.con (.str "back")), (.var 6), (.var 9)]) (.con (.bl true)))] [(.ite (.cmp .eq (.var 12) (.con (.int 6))) [(.put 4 [] (.tup 0 [(.con (.str "waits")), (.var 7), (.var 9), (.call i__law_a_name [(.io 0)])]) (.con (.bl true)))] [(.asg 10 0 (.idx (.lst 1 [(.call i__law_fewer [(.io 0), (.var 10)]), (.call i__law_some_contents [(.io 0), (.call i__law_make_of [(.var 1), (.var 7)])])]) (.bin .sub (.var 12) (.con (.int 7))))),
    (.put 4 [] (.tup 0 [(.con (.str "counted")), (.var 6), (.var 9), (.var 10)]) (.con (.bl true)))])])]),
    (.asg 9 0 (.bi .min2 [(.bin .pow (.con (.int 10)) (.con (.int 6))), (.bin .add (.var 9) (.call i__law_draw [(.io 0), (.idx (.lst 1 [(.con (.int 3)), (.bin .pow (.con (.int 10)) (.con (.int 5)))]) (.bin .fdiv (.call i__law_draw [(.io 0), (.con (.int 6))]) (.con (.int 5))))]))]))]
abbrev b__law_pages_2 : List S := [(.asg 9 0 (.call i__law_draw [(.io 0), (.con (.int 9))])),
    (.asg 10 0 (.var 8)),
    (.for_ (.nm 11) (.rng [(.call i__law_draw [(.io 0), (.bin .add (.var 3) (.con (.int 1)))])]) b__law_pages_1)]
abbrev e__law_pages_1 : E := (.idx (.var 5) (.var 11))
def d__law_pages : Def := { np := 4, ns := 13, df := [], body := [(.asg 4 1 (.dct [] [])),
    (.for_ (.tp [(.nm 6), (.nm 7), (.nm 8)]) (.var 2) b__law_pages_2),
    (.asg 5 0 (.bi .list [(.var 4)])),
    (.ret (.lc 1 e__law_pages_1 (.nm 11) (.call i__law_any_order [(.io 0), (.bi .len [(.var 5)])]) none))] }
abbrev e__law_fewer_1 : E := (.tup 0 [(.var 3), (.bin .sub (.var 4) (.bin .mul (.call i__law_draw [(.io 0), (.con (.int 2))]) (.call i__law_draw [(.io 0), (.con (.int 3))])))])
abbrev e__law_fewer_2 : E := (.var 5)
abbrev c__law_fewer_2 : Option E := (some (.cmp .gt (.idx (.var 5) (.con (.int 1))) (.con (.int 0))))
def d__law_fewer : Def := { np := 2, ns := 6, df := [], body := [(.asg 2 0 (.lc 1 e__law_fewer_1 (.tp [(.nm 3), (.nm 4)]) (.var 1) none)),
    (.ret (.bi .tuple [(.lc 1 e__law_fewer_2 (.nm 5) (.var 2) c__law_fewer_2)]))] }
def d__law_setting : Def := { np := 3, ns := 5, df := [], body := [(.asg 3 0 (.call i__law_a_makes [(.io 0)])),
    (.asg 4 0 (.call i__law_a_shelf [(.io 0), (.var 3), (.var 1)])),
    (.ret (.tup 0 [(.var 3), (.var 4), (.call i__law_pages [(.io 0), (.var 3), (.var 4), (.var 2)])]))] }
abbrev e__law_gone_1 : E := (.idx (.var 14) (.con (.int 2)))
abbrev c__law_gone_1 : Option E := (some (.cmp .eq (.idx (.var 14) (.con (.int 0))) (.var 2)))
abbrev e__law_gone_2 : E := (.var 12)
abbrev c__law_gone_2 : Option E := (some (.and (.cmp .ne (.idx (.var 12) (.con (.int 0))) (.con (.str "waits"))) (.cmp .eq (.idx (.var 12) (.con (.int 1))) (.var 2))))
abbrev e__law_gone_3 : E := (.tup 0 [(.idx (.var 12) (.con (.int 2))), (.bm .index (.var 4) [(.idx (.var 12) (.con (.int 0)))]), (.var 12)])
abbrev c__law_gone_3 : Option E := (some (.or (.cmp .isn (.var 3) (.con .non)) (.cmp .le (.idx (.var 12) (.con (.int 2))) (.var 3))))
abbrev b__law_gone_1 : List S := [(.ite (.cmp .lt (.bm .get (.var 15) [(.var 16), (.con (.int 0))]) (.var 17)) [(.app 6 [(.con (.str "lacks"))] (.tup 2 [(.var 2), (.var 10), (.var 16), (.bin .sub (.var 17) (.bm .get (.var 15) [(.var 16), (.con (.int 0))])), (.bi .sortset [(.var 7)])]))] [])]
abbrev b__law_gone_2 : List S := [(.asg 13 0 (.cmp .nsn (.idx (.var 6) (.con (.str "house"))) (.con .non))),
    (.ite (.cmp .ne (.var 13) (.cmp .eq (.var 11) (.con (.int 0)))) [(.app 6 [(.con (.str "faults"))] (.tup 2 [(.var 2), (.var 12), (.idx (.lst 1 [(.con (.str "in")), (.con (.str "away")), (.con (.str "out"))]) (.var 11))]))] [(.ite (.cmp .eq (.var 11) (.con (.int 0))) [(.put 6 [] (.con (.str "house")) (.con .non))] [(.ite (.cmp .eq (.var 11) (.con (.int 2))) [(.put 6 [] (.con (.str "house")) (.idx (.var 12) (.con (.int 3)))),
    (.app 6 [(.con (.str "lent"))] (.tup 2 [(.var 10), (.var 2), (.idx (.var 12) (.con (.int 3)))])),
    (.app 7 [] (.idx (.var 12) (.con (.int 3))))] [(.asg 15 0 (.bi .dict [(.idx (.var 12) (.con (.int 3)))])),
    (.for_ (.tp [(.nm 16), (.nm 17)]) (.var 5) b__law_gone_1),
    (.asg 5 0 (.idx (.var 12) (.con (.int 3)))),
    (.asg 7 1 (.lst 1 []))])])])]
def d__law_gone : Def := { np := 4, ns := 18, df := [], body := [(.asg 4 0 (.lst 1 [(.con (.str "back")), (.con (.str "counted")), (.con (.str "lent"))])),
    (.asg 5 0 (.idx (.lc 1 e__law_gone_1 (.nm 14) (.var 0) c__law_gone_1) (.con (.int 0)))),
    (.asg 6 4 (.dcs 4 [("house", (some .non)), ("faults", none), ("lacks", none), ("lent", none)])),
    (.asg 7 1 (.lst 1 [])),
    (.asg 8 0 (.lc 1 e__law_gone_2 (.nm 12) (.var 1) c__law_gone_2)),
    (.asg 9 0 (.bi .sorted [(.lc 1 e__law_gone_3 (.nm 12) (.var 8) c__law_gone_3)])),
    (.for_ (.tp [(.nm 10), (.nm 11), (.nm 12)]) (.var 9) b__law_gone_2),
    (.put 6 [] (.con (.str "contents")) (.var 5)),
    (.ret (.mv 6))] }
abbrev b_law_1 : List S := [(.ext 3 [] (.idx (.call i__law_gone [(.var 10), (.var 11), (.idx (.var 4) (.con (.int 0))), (.con .non)]) (.con (.str "lacks"))))]
abbrev b_law_2 : List S := [(.app 6 [(.con (.int 4))] (.con (.str "zz")))]
abbrev e_law_1 : E := (.idx (.var 12) (.con (.int 3)))
abbrev c_law_1 : Option E := (some (.cmp .eq (.idx (.var 12) (.con (.int 0))) (.con (.str "lent"))))
abbrev e_law_2 : E := (.var 6)
abbrev c_law_2 : Option E := (some (.cmp .eq (.idx (.var 6) (.con (.int 4))) (.lst 1 [(.var 8)])))
abbrev e_law_3 : E := (.var 6)
abbrev c_law_3 : Option E := (some (.and (.cmp .gt (.bi .len [(.idx (.var 6) (.con (.int 4)))]) (.con (.int 1))) (.cmp .inn (.var 8) (.idx (.var 6) (.con (.int 4))))))
abbrev b_law_3 : List S := [(.ite (.cmp .ne (.call i_surely [(.var 10), (.var 11), (.var 8)]) (.lc 1 e_law_2 (.nm 6) (.var 3) c_law_2)) [(.ret (.con (.bl false)))] []),
    (.ite (.cmp .ne (.call i_perhaps [(.var 10), (.var 11), (.var 8)]) (.lc 1 e_law_3 (.nm 6) (.var 3) c_law_3)) [(.ret (.con (.bl false)))] [])]
abbrev b_law_4 : List S := [(.unp (.tp [(.nm 9), (.nm 10), (.nm 11)]) (.call i__law_setting [(.io 1), (.con (.int 5)), (.idx (.lst 1 [(.con (.int 9)), (.con (.int 16))]) (.call i__law_draw [(.io 1), (.con (.int 2))]))])),
    (.asg 3 1 (.lst 1 [])),
    (.for_ (.nm 4) (.var 10) b_law_1),
    (.asg 3 1 (.bi .sorted [(.var 3)])),
    (.asg 5 3 (.call i_lacks [(.var 10), (.var 11)])),
    (.ite (.or (.not (.isi (.var 5) [.list])) (.cmp .ne (.var 5) (.var 3))) [(.ret (.con (.bl false)))] []),
    (.fom 6 5 b_law_2),
    (.app 5 [] (.con (.int 7))),
    (.ite (.cmp .ne (.call i_lacks [(.var 10), (.rev (.var 11))]) (.var 3)) [(.ret (.con (.bl false)))] []),
    (.asg 7 0 (.bin .add (.lst 1 [(.con (.str "ann")), (.con (.str "bo")), (.con (.str "cy")), (.con (.str "dan")), (.con (.str "zz")), (.con (.str ""))]) (.slc (.lc 1 e_law_1 (.nm 12) (.var 11) c_law_1) none (some (.con (.int 4)))))),
    (.for_ (.nm 8) (.var 7) b_law_3)]
def d_law : Def := { np := 1, ns := 13, df := [], body := [(.asg 1 1 (.lst 1 [(.bi .list [(.var 0)]), (.con (.int 0)), (.con (.int 0))])),
    (.for_ (.nm 2) (.rng [(.con (.int 5))]) b_law_4),
    (.ret (.con (.bl true)))] }
def f_Life___init__ : Inf := ⟨"__init__", cst 6 0, d_Life___init__, ["self", "contents"], ["self", "contents"], "Life.__init__", (some ("Life", "__init__"))⟩
def f_Life_fault_of : Inf := ⟨"fault_of", cst 6 1, d_Life_fault_of, ["self", "page"], ["self", "page"], "Life.fault_of", (some ("Life", "fault_of"))⟩
def f_Life_go : Inf := ⟨"go", cst 6 2, d_Life_go, ["self", "page", "word"], ["self", "page"], "Life.go", (some ("Life", "go"))⟩
def f_Life_count : Inf := ⟨"count", cst 6 3, d_Life_count, ["self", "page", "now", "kind", "many"], ["self", "page"], "Life.count", (some ("Life", "count"))⟩
def f_life_of : Inf := ⟨"life_of", top 7, d_life_of, ["shelf", "pages", "bag", "day", "own", "life", "some", "when", "page", "row"], ["shelf", "pages", "bag", "day"], "life_of", none⟩
def f_lacks : Inf := ⟨"lacks", top 9, d_lacks, ["shelf", "pages", "found", "bag"], ["shelf", "pages"], "lacks", none⟩
def f_surely : Inf := ⟨"surely", top 10, d_surely, ["shelf", "pages", "house", "lack"], ["shelf", "pages", "house"], "surely", none⟩
def f_perhaps : Inf := ⟨"perhaps", top 11, d_perhaps, ["shelf", "pages", "house", "lack"], ["shelf", "pages", "house"], "perhaps", none⟩
def f__law_draw : Inf := ⟨"_law_draw", top 13, d__law_draw, ["tape", "many", "prime", "found", "cell"], ["tape", "many"], "_law_draw", none⟩
def f__law_any_order : Inf := ⟨"_law_any_order", top 14, d__law_any_order, ["tape", "many", "found", "k"], ["tape", "many"], "_law_any_order", none⟩
def f__law_a_name : Inf := ⟨"_law_a_name", top 15, d__law_a_name, ["tape", "way", "letters", "k"], ["tape"], "_law_a_name", none⟩
def f__law_a_kind : Inf := ⟨"_law_a_kind", top 16, d__law_a_kind, ["tape"], ["tape"], "_law_a_kind", none⟩
def f__law_a_make : Inf := ⟨"_law_a_make", top 17, d__law_a_make, ["tape", "name", "most", "parts", "k", "value", "price", "kind"], ["tape", "name", "most"], "_law_a_make", none⟩
def f__law_a_makes : Inf := ⟨"_law_a_makes", top 18, d__law_a_makes, ["tape", "names", "name"], ["tape"], "_law_a_makes", none⟩
def f__law_some_contents : Inf := ⟨"_law_some_contents", top 19, d__law_some_contents, ["tape", "make", "found", "kind", "count", "price", "many"], ["tape", "make"], "_law_some_contents", none⟩
def f__law_a_shelf : Inf := ⟨"_law_a_shelf", top 20, d__law_a_shelf, ["tape", "makes", "most", "found", "k", "make", "bag"], ["tape", "makes", "most"], "_law_a_shelf", none⟩
def f__law_make_of : Inf := ⟨"_law_make_of", top 21, d__law_make_of, ["makes", "name", "make"], ["makes", "name"], "_law_make_of", none⟩
def f__law_pages : Inf := ⟨"_law_pages", top 22, d__law_pages, ["tape", "makes", "shelf", "most", "found", "row", "bag", "name", "contents", "day", "here", "k", "way"], ["tape", "makes", "shelf", "most"], "_law_pages", none⟩
def f__law_fewer : Inf := ⟨"_law_fewer", top 23, d__law_fewer, ["tape", "contents", "rows", "kind", "many", "row"], ["tape", "contents"], "_law_fewer", none⟩
def f__law_setting : Inf := ⟨"_law_setting", top 24, d__law_setting, ["tape", "bags", "most", "makes", "shelf"], ["tape", "bags", "most"], "_law_setting", none⟩
def f__law_gone : Inf := ⟨"_law_gone", top 25, d__law_gone, ["shelf", "pages", "bag", "day", "words", "here", "found", "since", "own", "rows", "when", "word", "page", "out", "row", "now", "kind", "many"], ["shelf", "pages", "bag", "day"], "_law_gone", none⟩
def f_law : Inf := ⟨"law", top 26, d_law, ["script", "tape", "turn", "due", "bag", "found", "row", "houses", "house", "makes", "shelf", "pages", "page"], ["script"], "law", none⟩
def fs : List Inf := [f_Life___init__, f_Life_fault_of, f_Life_go, f_Life_count, f_life_of, f_lacks, f_surely, f_perhaps, f__law_draw, f__law_any_order, f__law_a_name, f__law_a_kind, f__law_a_make, f__law_a_makes, f__law_some_contents, f__law_a_shelf, f__law_make_of, f__law_pages, f__law_fewer, f__law_setting, f__law_gone, f_law]
abbrev tb : List Def := fs.map Inf.d
def gt : List (Str × D) := [("WORDS", (.tup [(.str "back"), (.str "counted"), (.str "lent")]))]
def fl : List (String × String) := [("Life", "contents"), ("Life", "house"), ("Life", "since"), ("Life", "wrong"), ("Life", "missing"), ("Life", "lendings")]
theorem fs_ok : fs.all (Inf.okB fs gt fl) = true := by decide +kernel
end Law
namespace Law
open PySem Ti
section
def Tape (t : D) : Prop := ∃ (xs : List Int) (p c : Int), t = .lst [.lst (xs.map D.int), .int p, .int c]
theorem ev_succ (n g : Nat) (f : Def) (h : tb[g]? = some f) (as : List Ti.Arg) : evDef tb (n + 1) g as = rsOf (evDef tb n) f (as ++ (f.rest as.length).map (Ti.Arg.pv 0)) := by
  show (match tb[g]? with
    | none => Rs.no
    | some f => rsOf (evDef tb n) f (as ++ (f.rest as.length).map (Ti.Arg.pv 0))) = _
  rw [h]
theorem emod_ok {a m : Int} (hm : 0 < m) : 0 ≤ a % m ∧ a % m < m := ⟨Int.emod_nonneg _ (by omega), Int.emod_lt_of_pos _ hm⟩
theorem mo1 (p : Int) : mulOk 1000003 p := .inl (by decide)
theorem mo2 (p : Int) : mulOk 1181783497276652981 p := .inl (by decide)
theorem mo3 (a b : Int) : mulOk (a % 2305843009213693951) b := .inl (by omega)
/-- the tape's next cell -/
def mix (cell p : Int) : Int :=
  let c := (cell + 1000003 * p) % 2305843009213693951
  let c := (c * c + 1181783497276652981 * c + 2049848353892358983) % 2305843009213693951
  (c * c + 1442695040888963407) % 2305843009213693951
theorem s_draw0 (t : D) (ht : Tape t) (m : Int) (hm : 0 < m) (hb : m < 1606938044258990275541962092341162602522202993782792835301376) : ∃ v t', Tape t' ∧ 0 ≤ v ∧ v < m ∧ ∀ n, evDef tb (n + 1) i__law_draw [.io 1 t, .pv 0 (.int m)] = .ok 0 (.int v) [t'] := by
  obtain ⟨xs, p, c, rfl⟩ := ht
  by_cases h : c < m
  · by_cases hl : xs = []
    · subst hl
      by_cases hp : 0 ≤ p
      · refine ⟨mix 0 p % m, .lst [.lst [], .int (p + 1), .int (mix 0 p / m)], ⟨[], p + 1, mix 0 p / m, rfl⟩, (emod_ok hm).1, (emod_ok hm).2, fun n => ?_⟩
        rw [ev_succ n i__law_draw d__law_draw rfl]
        simp [-Ev.bind, -Ev.of, rsOf, Def.rest, ioIdx, Ti.Arg.slot, place, E.muts, E.mutss, E.mutso, chg, updD, Ti.putF, Ti.appF, Ti.extF, Ti.insF, Ti.popF, okTg, S.muts, S.mutss, ending, outsOf, wn, Tg.put, Tg.puts, Tg.slots, Tg.slotss, noOw, wipeS, restore, isTy, itemsOf, clash, cE_lc, cS_for, d__law_draw, h, hm, hb, mo1, mo2, mo3, hp, mix]
      · refine ⟨mix 0 p % m, .lst [.lst [], .int (p + 1), .int (mix 0 p / m)], ⟨[], p + 1, mix 0 p / m, rfl⟩, (emod_ok hm).1, (emod_ok hm).2, fun n => ?_⟩
        rw [ev_succ n i__law_draw d__law_draw rfl]
        simp [-Ev.bind, -Ev.of, rsOf, Def.rest, ioIdx, Ti.Arg.slot, place, E.muts, E.mutss, E.mutso, chg, updD, Ti.putF, Ti.appF, Ti.extF, Ti.insF, Ti.popF, okTg, S.muts, S.mutss, ending, outsOf, wn, Tg.put, Tg.puts, Tg.slots, Tg.slotss, noOw, wipeS, restore, isTy, itemsOf, clash, cE_lc, cS_for, d__law_draw, h, hm, hb, mo1, mo2, mo3, hp, mix]
    · have hn : 0 < xs.length := List.length_pos_iff.mpr hl
      have hlen : (0 : Int) < (xs.length : Int) := by omega
      have e0 := (emod_ok (a := p) hlen).1
      have e1 := (emod_ok (a := p) hlen).2
      have hj : (p % (xs.length : Int)).toNat < xs.length := by omega
      obtain ⟨cell, ex⟩ : ∃ cell, xs[(p % (xs.length : Int)).toNat] = cell := ⟨_, rfl⟩
      by_cases h2 : (xs.length : Int) ≤ p
      · refine ⟨mix cell p % m, .lst [.lst (xs.map D.int), .int (p + 1), .int (mix cell p / m)], ⟨xs, p + 1, mix cell p / m, rfl⟩, (emod_ok hm).1, (emod_ok hm).2, fun n => ?_⟩
        rw [ev_succ n i__law_draw d__law_draw rfl]
        simp [-Ev.bind, -Ev.of, rsOf, Def.rest, ioIdx, Ti.Arg.slot, place, E.muts, E.mutss, E.mutso, chg, updD, Ti.putF, Ti.appF, Ti.extF, Ti.insF, Ti.popF, okTg, S.muts, S.mutss, ending, outsOf, wn, Tg.put, Tg.puts, Tg.slots, Tg.slotss, noOw, wipeS, restore, isTy, itemsOf, clash, cE_lc, cS_for, d__law_draw, h, hm, hb, mo1, mo2, mo3, hn, hlen, e0, e1, ex, h2, mix]
      · by_cases h3 : cell < 1000000000000000000
        · refine ⟨mix cell p % m, .lst [.lst (xs.map D.int), .int (p + 1), .int (mix cell p / m)], ⟨xs, p + 1, mix cell p / m, rfl⟩, (emod_ok hm).1, (emod_ok hm).2, fun n => ?_⟩
          rw [ev_succ n i__law_draw d__law_draw rfl]
          simp [-Ev.bind, -Ev.of, rsOf, Def.rest, ioIdx, Ti.Arg.slot, place, E.muts, E.mutss, E.mutso, chg, updD, Ti.putF, Ti.appF, Ti.extF, Ti.insF, Ti.popF, okTg, S.muts, S.mutss, ending, outsOf, wn, Tg.put, Tg.puts, Tg.slots, Tg.slotss, noOw, wipeS, restore, isTy, itemsOf, clash, cE_lc, cS_for, d__law_draw, h, hm, hb, mo1, mo2, mo3, hn, hlen, e0, e1, ex, h2, h3, mix]
        · refine ⟨cell % m, .lst [.lst (xs.map D.int), .int (p + 1), .int (cell / m)], ⟨xs, p + 1, cell / m, rfl⟩, (emod_ok hm).1, (emod_ok hm).2, fun n => ?_⟩
          rw [ev_succ n i__law_draw d__law_draw rfl]
          simp [-Ev.bind, -Ev.of, rsOf, Def.rest, ioIdx, Ti.Arg.slot, place, E.muts, E.mutss, E.mutso, chg, updD, Ti.putF, Ti.appF, Ti.extF, Ti.insF, Ti.popF, okTg, S.muts, S.mutss, ending, outsOf, wn, Tg.put, Tg.puts, Tg.slots, Tg.slotss, noOw, wipeS, restore, isTy, itemsOf, clash, cE_lc, cS_for, d__law_draw, h, hm, hb, mo1, mo2, mo3, hn, hlen, e0, e1, ex, h2, h3, mix]
  · refine ⟨c % m, .lst [.lst (xs.map D.int), .int p, .int (c / m)], ⟨xs, p, c / m, rfl⟩, (emod_ok hm).1, (emod_ok hm).2, fun n => ?_⟩
    rw [ev_succ n i__law_draw d__law_draw rfl]
    simp [-Ev.bind, -Ev.of, rsOf, Def.rest, ioIdx, Ti.Arg.slot, place, E.muts, E.mutss, E.mutso, chg, updD, Ti.putF, Ti.appF, Ti.extF, Ti.insF, Ti.popF, okTg, S.muts, S.mutss, ending, outsOf, wn, Tg.put, Tg.puts, Tg.slots, Tg.slotss, noOw, wipeS, restore, isTy, itemsOf, clash, cE_lc, cS_for, d__law_draw, h, hm, hb]
/-- a tape -/
def T := { d : D // Tape d }
open Classical in
theorem ex_draw (t : T) (m : Int) : ∃ r : Int × T, 0 ≤ r.1 ∧ (0 < m → r.1 < m) ∧ (0 < m → m < 1606938044258990275541962092341162602522202993782792835301376 → ∀ n, evDef tb (n + 1) i__law_draw [.io 1 t.1, .pv 0 (.int m)] = .ok 0 (.int r.1) [r.2.1]) := by
  by_cases h : 0 < m ∧ m < 1606938044258990275541962092341162602522202993782792835301376
  · obtain ⟨v, t', h1, h2, h3, h4⟩ := s_draw0 t.1 t.2 m h.1 h.2
    exact ⟨(v, ⟨t', h1⟩), h2, fun _ => h3, fun _ _ => h4⟩
  · exact ⟨(0, t), Int.le_refl _, fun a => a, fun a b => absurd ⟨a, b⟩ h⟩
noncomputable def dv (t : T) (m : Int) : Int := (Classical.choose (ex_draw t m)).1
noncomputable def dt (t : T) (m : Int) : T := (Classical.choose (ex_draw t m)).2
@[simp] theorem dv_lo (t : T) (m : Int) : 0 ≤ dv t m := (Classical.choose_spec (ex_draw t m)).1
@[simp] theorem dv_hi (t : T) (m : Int) (h : 0 < m) : dv t m < m := (Classical.choose_spec (ex_draw t m)).2.1 h
@[simp] theorem s_draw (n : Nat) (t : T) (m : Int) (h : 0 < m) (hb : m < 1606938044258990275541962092341162602522202993782792835301376) : evDef tb (n + 1) i__law_draw [.io 1 t.1, .pv 0 (.int m)] = .ok 0 (.int (dv t m)) [(dt t m).1] := (Classical.choose_spec (ex_draw t m)).2.2 h hb n
theorem dv_half (t : T) : 0 ≤ dv t 3 / 2 ∧ dv t 3 / 2 < 2 := by
  have := dv_lo t 3
  have := dv_hi t 3 (by decide)
  omega
theorem dv_third (t : T) : 0 ≤ dv t 4 / 3 ∧ dv t 4 / 3 < 2 := by
  have := dv_lo t 4
  have := dv_hi t 4 (by decide)
  omega
theorem dv3_lo (t : T) : 0 ≤ dv t 3 / 2 := (dv_half t).1
theorem dv3_hi (t : T) : dv t 3 / 2 < 2 := (dv_half t).2
theorem dv4_lo (t : T) : 0 ≤ dv t 4 / 3 := (dv_third t).1
theorem dv4_hi (t : T) : dv t 4 / 3 < 2 := (dv_third t).2
theorem pos_ite {c : Prop} [Decidable c] {a b : Int} (ha : 0 < a) (hb : 0 < b) : 0 < if c then a else b := by split <;> assumption
theorem lt_ite {c : Prop} [Decidable c] {a b m : Int} (ha : a < m) (hb : b < m) : (if c then a else b) < m := by split <;> assumption
theorem le_ite {c : Prop} [Decidable c] {a b m : Int} (ha : a ≤ m) (hb : b ≤ m) : (if c then a else b) ≤ m := by split <;> assumption
theorem dv_lt (t : T) (m : Int) (h : 0 < m) : dv t m < m := dv_hi t m h
end
section
def kindsL : List String := ["block", "card", "die", "peg", "ring", "wheel"]
noncomputable def kd (t : T) : String := kindsL.getD (dv t 6).toNat ""
theorem kd_mem (t : T) : kd t ∈ kindsL := by
  have h1 := dv_lo t 6
  have h2 := dv_hi t 6 (by decide)
  have : (dv t 6).toNat < kindsL.length := by show _ < 6; omega
  unfold kd
  rw [List.getD_eq_getElem?_getD, List.getElem?_eq_getElem this]
  exact List.getElem_mem _
theorem idx_kind (t : T) : idxD (.lst [.str "block", .str "card", .str "die", .str "peg", .str "ring", .str "wheel"]) (.int (dv t 6)) = some (.str (kd t)) := idx_gets kindsL _ (dv_lo t 6) (dv_hi t 6 (by decide))
@[simp] theorem s_a_kind (n : Nat) (t : T) : evDef tb (n + 2) i__law_a_kind [.io 1 t.1] = .ok 0 (.str (kd t)) [(dt t 6).1] := by
  rw [ev_succ (n + 1) i__law_a_kind d__law_a_kind rfl]
  simp [-Ev.bind, -Ev.of, rsOf, Def.rest, ioIdx, Ti.Arg.slot, place, E.muts, E.mutss, E.mutso, chg, updD, Ti.putF, Ti.appF, Ti.extF, Ti.insF, Ti.popF, okTg, S.muts, S.mutss, ending, outsOf, wn, Tg.put, Tg.puts, Tg.slots, Tg.slotss, noOw, wipeS, restore, isTy, itemsOf, clash, cE_lc, cS_for, d__law_a_kind, idx_kind, -idx_l]
end
section
abbrev Part := String × Int × Int
abbrev Mk := String × Int × List Part
abbrev Ct := List (String × Int)
def encP (p : Int × Int) : D := .tup [.int p.1, .int p.2]
def encPart (p : Part) : D := .tup [.str p.1, .int p.2.1, .int p.2.2]
def encMk (m : Mk) : D := .tup [.str m.1, .int m.2.1, .tup (m.2.2.map encPart)]
def encRow (r : String × Int) : D := .tup [.str r.1, .int r.2]
def encCt (c : Ct) : D := .tup (c.map encRow)
/-- a part as it is made -/
structure GPart (p : Part) : Prop where
  kind : p.1 ∈ kindsL
  c1 : 1 ≤ p.2.1
  c2 : p.2.1 ≤ 20
  p0 : 0 ≤ p.2.2
  p1 : p.2.2 ≤ 1000
/-- a make as it is made -/
structure GMk (m : Mk) : Prop where
  w0 : 0 ≤ m.2.1
  w1 : m.2.1 ≤ 1000000
  ne : m.2.2 ≠ []
  len : m.2.2.length ≤ 8
  lt : (m.2.2.map (·.1)).Pairwise fun a b => codes a < codes b
  parts : ∀ p ∈ m.2.2, GPart p
/-- contents as they are made -/
structure GCt (c : Ct) : Prop where
  len : c.length ≤ 9
  lt : (c.map (·.1)).Pairwise fun a b => codes a < codes b
  rows : ∀ r ∈ c, r.1 ∈ kindsL ∧ 1 ≤ r.2 ∧ r.2 ≤ 99
theorem put_P (kvs : List (String × Int × Int)) (k : String) (c p : Int) : putD (dE D.str encP kvs) (.str k) (.tup [.int c, .int p]) = dE D.str encP (aput kvs k (c, p)) := put_dE key_str kvs k (c, p)
theorem put_I (kvs : List (String × Int)) (k : String) (c : Int) : putD (dE D.str D.int kvs) (.str k) (.int c) = dE D.str D.int (aput kvs k c) := put_dE key_str kvs k c
theorem look_P (kvs : List (String × Int × Int)) (k : String) : lookD (dE D.str encP kvs) (.str k) = (aget kvs k).map encP := look_dE key_str kvs k
theorem look_I (kvs : List (String × Int)) (k : String) : lookD (dE D.str D.int kvs) (.str k) = (aget kvs k).map D.int := look_dE key_str kvs k
theorem keySort_str {xs : List String} (h : xs.length < 64) : keySort (xs.map D.str) = true := by
  unfold keySort
  simp [strs_map, h]
theorem keySort_int {xs : List Int} (h : xs.length < 64) : keySort (xs.map D.int) = true := by
  unfold keySort
  simp [ints_map, h]
def GD (kvs : List (String × Int × Int)) : Prop := (kvs.map (·.1)).Nodup ∧ ∀ p ∈ kvs, GPart p
theorem t_make (n k : Nat) (t : T) (a b v4 v5 v6 v7 : Slot) (kvs : List (String × Int × Int)) (hg : GD kvs) (hl : kvs.length < 1000) : ∃ (t' : T) (kvs' : List (String × Int × Int)) (p : Int), GD kvs' ∧ kvs' ≠ [] ∧ kvs'.length ≤ kvs.length + 1 ∧ forF (evDef tb (n + 2)) [0] 1000000 (.nm 4) b__law_a_make_1 (.int k) [.ow 1 t.1, a, b, .ow 1 (.dct (dE D.str encP kvs)), v4, v5, v6, v7] = .nx [.ow 1 t'.1, a, b, .ow 1 (.dct (dE D.str encP kvs')), .bo 0 (.int k), v5, .bo 0 (.int p), v7] := by
  have hb : kvs.length < big := by unfold big; omega
  refine ⟨dt (dt (dt (dt (dt (dt t 30) 1001) 2) 4) (if dv (dt (dt (dt t 30) 1001) 2) 4 / 3 = 0 then 3 else 20)) 6, aput kvs (kd (dt (dt (dt (dt (dt t 30) 1001) 2) 4) (if dv (dt (dt (dt t 30) 1001) 2) 4 / 3 = 0 then 3 else 20))) (1 + dv (dt (dt (dt (dt t 30) 1001) 2) 4) (if dv (dt (dt (dt t 30) 1001) 2) 4 / 3 = 0 then 3 else 20), if dv (dt (dt t 30) 1001) 2 = 0 then dv t 30 else dv (dt t 30) 1001), if dv (dt (dt t 30) 1001) 2 = 0 then dv t 30 else dv (dt t 30) 1001, ⟨aput_nodup _ _ hg.1, aput_all hg.2 ⟨kd_mem _, ?_, ?_, ?_, ?_⟩⟩, aput_ne _ _ _, aput_len _ _ _, ?_⟩
  · have := dv_lo (dt (dt (dt (dt t 30) 1001) 2) 4) (if dv (dt (dt (dt t 30) 1001) 2) 4 / 3 = 0 then 3 else 20)
    show 1 ≤ 1 + _
    omega
  · show 1 + _ ≤ (20 : Int)
    have h1 : (0 : Int) < if dv (dt (dt (dt t 30) 1001) 2) 4 / 3 = 0 then 3 else 20 := pos_ite (by decide) (by decide)
    have h2 : (if dv (dt (dt (dt t 30) 1001) 2) 4 / 3 = 0 then 3 else 20) ≤ (20 : Int) := le_ite (by decide) (by decide)
    have := dv_hi (dt (dt (dt (dt t 30) 1001) 2) 4) _ h1
    omega
  · exact ite_pr (P := fun x => 0 ≤ x) (dv_lo _ _) (dv_lo _ _)
  · have h1 := dv_hi t 30 (by decide)
    have h2 := dv_hi (dt t 30) 1001 (by decide)
    exact ite_pr (P := fun x => x ≤ 1000) (by omega) (by omega)
  · simp [-Ev.bind, -Ev.of, rsOf, Def.rest, ioIdx, Ti.Arg.slot, place, E.muts, E.mutss, E.mutso, chg, updD, Ti.putF, Ti.appF, Ti.extF, Ti.insF, Ti.popF, okTg, S.muts, S.mutss, ending, outsOf, wn, Tg.put, Tg.puts, Tg.slots, Tg.slotss, noOw, wipeS, restore, isTy, itemsOf, clash, cE_lc, cS_for, lcF, forF, -idx_l, idx2i, dv4_lo, dv4_hi, pos_ite, lt_ite, put_P, hb]
@[simp] theorem idx_mk0 (m : Mk) : idxD (encMk m) (.int 0) = some (.str m.1) := id rfl
@[simp] theorem idx_mk1 (m : Mk) : idxD (encMk m) (.int 1) = some (.int m.2.1) := id rfl
@[simp] theorem idx_mk2 (m : Mk) : idxD (encMk m) (.int 2) = some (.tup (m.2.2.map encPart)) := id rfl
theorem s_a_make (n : Nat) (t : T) (name : String) (most : Int) (h1 : 1 ≤ most) (h8 : most ≤ 8) : ∃ (m : Mk) (t' : T), m.1 = name ∧ GMk m ∧ evDef tb (n + 3) i__law_a_make [.io 1 t.1, .pv 0 (.str name), .pv 0 (.int most)] = .ok 0 (encMk m) [t'.1] := by
  have d1 := dv_lo t most
  have d2 := dv_hi t most (by omega)
  have m1 : 0 < most := by omega
  have m2 : most < 1606938044258990275541962092341162602522202993782792835301376 := by omega
  have hr : rngD [.int (1 + dv t most)] = some ((List.range (1 + dv t most).toNat).map fun (k : Nat) => .int k) := rng1 (by omega) (by omega)
  obtain ⟨s1, e1, t1, kvs, v4, v6, hg, hl, hn, rfl⟩ := forGo_pre (h := fun (k : Nat) => .int k) (f := forF (evDef tb (n + 2)) [0] 1000000 (.nm 4) b__law_a_make_1)
    (P := fun pre s => ∃ (t' : T) (kvs : List (String × Int × Int)) (v4 v6 : Slot), GD kvs ∧ kvs.length ≤ pre.length ∧ (pre ≠ [] → kvs ≠ []) ∧ s = [.ow 1 t'.1, .bo 0 (.str name), .bo 0 (.int most), .ow 1 (.dct (dE D.str encP kvs)), v4, .no, v6, .no])
    (List.range (1 + dv t most).toNat) [] [.ow 1 (dt t most).1, .bo 0 (.str name), .bo 0 (.int most), .ow 1 (.dct []), .no, .no, .no, .no] ⟨dt t most, [], .no, .no, ⟨by simp, by simp⟩, Nat.le_refl _, fun h => absurd rfl h, rfl⟩ (by
      rintro a k b hab s ⟨t', kvs, v4, v6, hg, hl, hn, rfl⟩
      have hla : a.length < 1000 := by
        have := congrArg List.length hab
        simp at this
        omega
      obtain ⟨t2, kvs', p, g1, g2, g3, e⟩ := t_make n k t' (.bo 0 (.str name)) (.bo 0 (.int most)) v4 .no v6 .no kvs hg (by omega)
      exact ⟨_, .inl e, t2, kvs', _, _, g1, by simp; omega, fun _ => g2, rfl⟩)
  simp only [List.nil_append, List.length_range] at hl hn
  have hne : kvs ≠ [] := hn (by simp; omega)
  have hks : keySort ((keys kvs).map D.str) = true := keySort_str (by rw [keys_length]; omega)
  have hsl : (sortS (keys kvs)).length = kvs.length := by rw [(sortS_perm _).length_eq, keys_length]
  have hbb : (sortS (keys kvs)).length ≤ big := by unfold big; omega
  have hmem : ∀ k ∈ sortS (keys kvs), ∃ v, aget kvs k = some v ∧ (k, v) ∈ kvs := fun k hk => aget_some ((sortS_perm _).mem_iff.mp hk)
  have hlc : ∀ t5 v5 v6, lcGo (lcF (evDef tb (n + 2)) [0] 1 e__law_a_make_1 (.nm 7) none) ((sortS (keys kvs)).map D.str) [.ow 1 t5, .bo 0 (.str name), .bo 0 (.int most), .ow 1 (.dct (dE D.str encP kvs)), v4, v5, v6, .no] = .ok ((sortS (keys kvs)).map fun k => encPart (k, (aget kvs k).getD (0, 0))) [.ow 1 t5, .bo 0 (.str name), .bo 0 (.int most), .ow 1 (.dct (dE D.str encP kvs)), v4, v5, v6, .no] := fun t5 v5 v6 =>
    lcGo_each fun k hk => by
      obtain ⟨v, hv, _⟩ := hmem k hk
      simp [-Ev.bind, -Ev.of, rsOf, Def.rest, ioIdx, Ti.Arg.slot, place, E.muts, E.mutss, E.mutso, chg, updD, Ti.putF, Ti.appF, Ti.extF, Ti.insF, Ti.popF, okTg, S.muts, S.mutss, ending, outsOf, wn, Tg.put, Tg.puts, Tg.slots, Tg.slotss, noOw, wipeS, restore, isTy, itemsOf, clash, cE_lc, cS_for, lcF, forF, look_P, hv, encPart, encP]
  have hm : ∀ p ∈ (sortS (keys kvs)).map (fun k => (k, (aget kvs k).getD (0, 0))), p ∈ kvs := by
    intro p hp
    obtain ⟨k, hk, rfl⟩ := List.mem_map.mp hp
    obtain ⟨v, hv, hm⟩ := hmem k hk
    rw [hv]
    exact hm
  refine ⟨(name, if dv (dt (dt t1 1000) 1000001) 2 = 0 then dv t1 1000 else dv (dt t1 1000) 1000001, (sortS (keys kvs)).map fun k => (k, (aget kvs k).getD (0, 0))), dt (dt (dt t1 1000) 1000001) 2, rfl, ⟨?_, ?_, ?_, ?_, ?_, fun p hp => hg.2 p (hm p hp)⟩, ?_⟩
  · exact ite_pr (P := fun x => 0 ≤ x) (dv_lo _ _) (dv_lo _ _)
  · have q1 := dv_hi t1 1000 (by decide)
    have q2 := dv_hi (dt t1 1000) 1000001 (by decide)
    exact ite_pr (P := fun x => x ≤ 1000000) (by omega) (by omega)
  · intro q
    have q2 : kvs.length = 0 := by
      have := congrArg List.length q
      simpa [hsl] using this
    exact hne (List.length_eq_zero_iff.mp q2)
  · show ((sortS (keys kvs)).map _).length ≤ 8
    rw [List.length_map, hsl]
    omega
  · show (((sortS (keys kvs)).map _).map _).Pairwise _
    rw [List.map_map]
    have e : ((fun x : Part => x.1) ∘ fun k => (k, (aget kvs k).getD (0, 0))) = id := rfl
    rw [e, List.map_id]
    exact sortS_lt hg.1
  · rw [ev_succ (n + 2) i__law_a_make d__law_a_make rfl]
    simp [-Ev.bind, -Ev.of, rsOf, Def.rest, ioIdx, Ti.Arg.slot, place, E.muts, E.mutss, E.mutso, chg, updD, Ti.putF, Ti.appF, Ti.extF, Ti.insF, Ti.popF, okTg, S.muts, S.mutss, ending, outsOf, wn, Tg.put, Tg.puts, Tg.slots, Tg.slotss, noOw, wipeS, restore, isTy, itemsOf, clash, cE_lc, cS_for, d__law_a_make, m1, m2, hr, e1, hks, keys_dE', sort_str, hlc, hbb, -idx_l, idx2i, encMk, Function.comp_def]
def namesL : List String := ["cart", "farm", "game", "horse"]
/-- makes as they are made -/
structure GMks (ms : List Mk) : Prop where
  nm : ∃ k, 1 ≤ k ∧ k ≤ 4 ∧ ms.map (·.1) = namesL.take k
  all : ∀ m ∈ ms, GMk m
def encMks (ms : List Mk) : D := .tup (ms.map encMk)
end
section
theorem s_a_makes (n : Nat) (t : T) : ∃ (ms : List Mk) (t' : T), GMks ms ∧ evDef tb (n + 4) i__law_a_makes [.io 1 t.1] = .ok 0 (encMks ms) [t'.1] := by
  have d1 := dv_lo t 4
  have d2 := dv_hi t 4 (by decide)
  obtain ⟨k, hk⟩ : ∃ k, k = (1 + dv t 4).toNat := ⟨_, rfl⟩
  have hs : slcL [D.str "cart", .str "farm", .str "game", .str "horse"] none (some (1 + dv t 4)) = (namesL.take k).map D.str := by
    have h1 : (0 : Int) ≤ 1 + dv t 4 := by omega
    have h2 : min (1 + dv t 4).toNat 4 = k := by omega
    unfold slcL namesL
    rw [List.map_take]
    simp only [Option.map_some, Option.map_none, Option.getD_some, Option.getD_none, List.drop_zero, bnd, h1, if_true]
    exact congrArg (fun j => List.take j [D.str "cart", .str "farm", .str "game", .str "horse"]) h2
  have hkl : (namesL.take k).length ≤ 16777216 := by
    rw [List.length_take]
    show min k 4 ≤ _
    omega
  obtain ⟨ns, hns⟩ : ∃ ns, namesL.take k = ns := ⟨_, rfl⟩
  rw [hns] at hs hkl
  obtain ⟨ms, s1, e1, t1, hm, hall, rfl⟩ := lcGo_pre (h := D.str) (g := encMk) (f := lcF (evDef tb (n + 3)) [0] 1 e__law_a_makes_1 (.nm 2) none)
    (P := fun a bs s => ∃ t' : T, bs.map (·.1) = a ∧ (∀ m ∈ bs, GMk m) ∧ s = [.ow 1 t'.1, .bo 0 (.lst (ns.map D.str)), .no])
    ns [] [] [.ow 1 (dt t 4).1, .bo 0 (.lst (ns.map D.str)), .no] ⟨_, rfl, by simp, rfl⟩ (by
      rintro a x b bs hab s ⟨t', hm, hall, rfl⟩
      obtain ⟨m, t2, h1, h2, e⟩ := s_a_make n t' x 5 (by decide) (by decide)
      refine ⟨some m, [.ow 1 t2.1, .bo 0 (.lst (ns.map D.str)), .no], ?_, t2, by simp [hm, h1], ?_, rfl⟩
      · simp [-Ev.bind, -Ev.of, rsOf, Def.rest, ioIdx, Ti.Arg.slot, place, E.muts, E.mutss, E.mutso, chg, updD, Ti.putF, Ti.appF, Ti.extF, Ti.insF, Ti.popF, okTg, S.muts, S.mutss, ending, outsOf, wn, Tg.put, Tg.puts, Tg.slots, Tg.slotss, noOw, wipeS, restore, isTy, itemsOf, clash, cE_lc, cS_for, lcF, forF, e]
      · intro m' hm'
        simp at hm'
        rcases hm' with hm' | rfl
        · exact hall _ hm'
        · exact h2)
  simp only [List.nil_append] at hm hall
  refine ⟨ms, t1, ⟨⟨k, by omega, by omega, hm.trans hns.symm⟩, hall⟩, ?_⟩
  rw [ev_succ (n + 3) i__law_a_makes d__law_a_makes rfl]
  simp [-Ev.bind, -Ev.of, rsOf, Def.rest, ioIdx, Ti.Arg.slot, place, E.muts, E.mutss, E.mutso, chg, updD, Ti.putF, Ti.appF, Ti.extF, Ti.insF, Ti.popF, okTg, S.muts, S.mutss, ending, outsOf, wn, Tg.put, Tg.puts, Tg.slots, Tg.slotss, noOw, wipeS, restore, isTy, itemsOf, clash, cE_lc, cS_for, d__law_a_makes, hs, e1, hkl, encMks]
end
section
theorem idx_more (t : T) : ∃ j : Int, j ≤ 1 ∧ idxD (.lst [.int 0, .int 0, .int 0, .int (-1), .int (-2), .int 1, .int (-20)]) (.int (dv t 7)) = some (.int j) := by
  have h0 := dv_lo t 7
  have h1 := dv_hi t 7 (by decide)
  have : dv t 7 = 0 ∨ dv t 7 = 1 ∨ dv t 7 = 2 ∨ dv t 7 = 3 ∨ dv t 7 = 4 ∨ dv t 7 = 5 ∨ dv t 7 = 6 := by omega
  rcases this with h | h | h | h | h | h | h <;> rw [h] <;> exact ⟨_, by decide, rfl⟩
def GI (kvs : List (String × Int)) : Prop := (kvs.map (·.1)).Nodup ∧ ∀ r ∈ kvs, r.1 ∈ kindsL ∧ 1 ≤ r.2 ∧ r.2 ≤ 99
theorem t_contents (n : Nat) (t : T) (a v3 v4 v5 v6 : Slot) (p : Part) (hp : GPart p) (kvs : List (String × Int)) (hg : GI kvs) (hl : kvs.length < 1000) : ∃ (t' : T) (kvs' : List (String × Int)) (j : Int), GI kvs' ∧ kvs'.length ≤ kvs.length + 1 ∧ forF (evDef tb (n + 2)) [0] 1000000 (.tp [.nm 3, .nm 4, .nm 5]) b__law_some_contents_1 (encPart p) [.ow 1 t.1, a, .ow 1 (.dct (dE D.str D.int kvs)), v3, v4, v5, v6] = .nx [.ow 1 t'.1, a, .ow 1 (.dct (dE D.str D.int kvs')), .bo 0 (.str p.1), .bo 0 (.int p.2.1), .bo 0 (.int p.2.2), .bo 0 (.int j)] := by
  have hb : kvs.length < 16777216 := by omega
  obtain ⟨j, hj, e⟩ := idx_more t
  by_cases h : 0 < p.2.1 + j
  · refine ⟨dt t 7, aput kvs p.1 (p.2.1 + j), p.2.1 + j, ⟨aput_nodup _ _ hg.1, aput_all hg.2 ⟨hp.kind, by show 1 ≤ p.2.1 + j; omega, by have := hp.c2; show p.2.1 + j ≤ 99; omega⟩⟩, aput_len _ _ _, ?_⟩
    simp [-Ev.bind, -Ev.of, rsOf, Def.rest, ioIdx, Ti.Arg.slot, place, E.muts, E.mutss, E.mutso, chg, updD, Ti.putF, Ti.appF, Ti.extF, Ti.insF, Ti.popF, okTg, S.muts, S.mutss, ending, outsOf, wn, Tg.put, Tg.puts, Tg.slots, Tg.slotss, noOw, wipeS, restore, isTy, itemsOf, clash, cE_lc, cS_for, lcF, forF, -idx_l, e, h, encPart, put_I, hb]
  · refine ⟨dt t 7, kvs, p.2.1 + j, hg, by omega, ?_⟩
    simp [-Ev.bind, -Ev.of, rsOf, Def.rest, ioIdx, Ti.Arg.slot, place, E.muts, E.mutss, E.mutso, chg, updD, Ti.putF, Ti.appF, Ti.extF, Ti.insF, Ti.popF, okTg, S.muts, S.mutss, ending, outsOf, wn, Tg.put, Tg.puts, Tg.slots, Tg.slotss, noOw, wipeS, restore, isTy, itemsOf, clash, cE_lc, cS_for, lcF, forF, -idx_l, e, h, encPart]
theorem idx2j (a b i : Int) (h0 : 0 ≤ i) (h1 : i < 2) : idxD (.lst [.int a, .int b]) (.int i) = some (.int (if i = 0 then a else b)) := idx2i a b i h0 h1
theorem s_some_contents (n : Nat) (t : T) (m : Mk) (hm : GMk m) : ∃ (c : Ct) (t' : T), GCt c ∧ evDef tb (n + 3) i__law_some_contents [.io 1 t.1, .pv 0 (encMk m)] = .ok 0 (encCt c) [t'.1] := by
  obtain ⟨s1, e1, t1, kvs, v3, v4, v5, v6, hg, hl, hv, rfl⟩ := forGo_pre (h := encPart) (f := forF (evDef tb (n + 2)) [0] 1000000 (.tp [.nm 3, .nm 4, .nm 5]) b__law_some_contents_1)
    (P := fun pre s => ∃ (t' : T) (kvs : List (String × Int)) (v3 v4 v5 v6 : Slot), GI kvs ∧ kvs.length ≤ pre.length ∧ (v3 = .no ∨ ∃ x, v3 = .bo 0 x) ∧ s = [.ow 1 t'.1, .bo 0 (encMk m), .ow 1 (.dct (dE D.str D.int kvs)), v3, v4, v5, v6])
    m.2.2 [] [.ow 1 t.1, .bo 0 (encMk m), .ow 1 (.dct []), .no, .no, .no, .no] ⟨t, [], .no, .no, .no, .no, ⟨by simp, by simp⟩, Nat.le_refl _, .inl rfl, rfl⟩ (by
      rintro a p b hab s ⟨t', kvs, v3, v4, v5, v6, hg, hl, hv, rfl⟩
      have hla : a.length < 1000 := by
        have h1 := congrArg List.length hab
        have h2 := hm.len
        rw [List.nil_append, List.length_append] at h1
        omega
      have hp : p ∈ m.2.2 := by
        have : p ∈ a ++ p :: b := by simp
        rw [← hab] at this
        simpa using this
      obtain ⟨t2, kvs', j, g1, g2, e⟩ := t_contents n t' (.bo 0 (encMk m)) v3 v4 v5 v6 p (hm.parts p hp) kvs hg (by omega)
      exact ⟨_, .inl e, t2, kvs', _, _, _, _, g1, by simp; omega, .inr ⟨_, rfl⟩, rfl⟩)
  have fin : ∀ (t2 : T) (kvs : List (String × Int)), GI kvs → kvs.length ≤ 9 → keySort ((keys kvs).map D.str) = true ∧ (sortS (keys kvs)).length ≤ 16777216 ∧ GCt ((sortS (keys kvs)).map fun k => (k, (aget kvs k).getD 0)) ∧
      lcGo (lcF (evDef tb (n + 2)) [0] 1 e__law_some_contents_1 (.nm 3) none) ((sortS (keys kvs)).map D.str) [.ow 1 t2.1, .bo 0 (encMk m), .ow 1 (.dct (dE D.str D.int kvs)), .no, v4, v5, v6] = .ok ((sortS (keys kvs)).map fun k => encRow (k, (aget kvs k).getD 0)) [.ow 1 t2.1, .bo 0 (encMk m), .ow 1 (.dct (dE D.str D.int kvs)), .no, v4, v5, v6] := by
    intro t2 kvs hg hl
    have hsl : (sortS (keys kvs)).length = kvs.length := by rw [(sortS_perm _).length_eq, keys_length]
    have hmem : ∀ k ∈ sortS (keys kvs), ∃ v, aget kvs k = some v ∧ (k, v) ∈ kvs := fun k hk => aget_some ((sortS_perm _).mem_iff.mp hk)
    refine ⟨keySort_str (by rw [keys_length]; omega), by omega, ⟨by rw [List.length_map, hsl]; exact hl, ?_, ?_⟩, ?_⟩
    · rw [List.map_map]
      have e : ((fun x : String × Int => x.1) ∘ fun k => (k, (aget kvs k).getD 0)) = id := rfl
      rw [e, List.map_id]
      exact sortS_lt hg.1
    · intro r hr
      obtain ⟨k, hk, rfl⟩ := List.mem_map.mp hr
      obtain ⟨v, hv, hm⟩ := hmem k hk
      rw [hv]
      exact hg.2 _ hm
    · exact lcGo_each fun k hk => by
        obtain ⟨v, hv, _⟩ := hmem k hk
        simp [-Ev.bind, -Ev.of, rsOf, Def.rest, ioIdx, Ti.Arg.slot, place, E.muts, E.mutss, E.mutso, chg, updD, Ti.putF, Ti.appF, Ti.extF, Ti.insF, Ti.popF, okTg, S.muts, S.mutss, ending, outsOf, wn, Tg.put, Tg.puts, Tg.slots, Tg.slotss, noOw, wipeS, restore, isTy, itemsOf, clash, cE_lc, cS_for, lcF, forF, look_I, hv, encRow]
  have hl9 : kvs.length ≤ 8 := Nat.le_trans hl hm.len
  by_cases h : dv t1 3 = 0
  · obtain ⟨M, hM⟩ : ∃ M : Int, M = if dv (dt t1 3) 3 / 2 = 0 then 3 else 99 := ⟨_, rfl⟩
    have M1 : 0 < M := by rw [hM]; exact pos_ite (by decide) (by decide)
    have M2 : M ≤ 99 := by rw [hM]; exact le_ite (by decide) (by decide)
    have M3 : M < 1606938044258990275541962092341162602522202993782792835301376 := by omega
    have q1 := dv_lo (dt (dt t1 3) 3) M
    have q2 := dv_hi (dt (dt t1 3) 3) M M1
    have g2 : GI (aput kvs (kd (dt (dt (dt t1 3) 3) M)) (1 + dv (dt (dt t1 3) 3) M)) := ⟨aput_nodup _ _ hg.1, aput_all hg.2 ⟨kd_mem _, by show 1 ≤ 1 + _; omega, by show 1 + _ ≤ (99 : Int); omega⟩⟩
    have l2 : (aput kvs (kd (dt (dt (dt t1 3) 3) M)) (1 + dv (dt (dt t1 3) 3) M)).length ≤ 9 := Nat.le_trans (aput_len _ _ _) (by omega)
    obtain ⟨f1, f2, f3, f4⟩ := fin (dt (dt (dt (dt t1 3) 3) M) 6) _ g2 l2
    have hb : kvs.length < 16777216 := by omega
    refine ⟨_, dt (dt (dt (dt t1 3) 3) M) 6, f3, ?_⟩
    rw [ev_succ (n + 2) i__law_some_contents d__law_some_contents rfl]
    rcases hv with rfl | ⟨x, rfl⟩ <;> simp [-Ev.bind, -Ev.of, rsOf, Def.rest, ioIdx, Ti.Arg.slot, place, E.muts, E.mutss, E.mutso, chg, updD, Ti.putF, Ti.appF, Ti.extF, Ti.insF, Ti.popF, okTg, S.muts, S.mutss, ending, outsOf, wn, Tg.put, Tg.puts, Tg.slots, Tg.slotss, noOw, wipeS, restore, isTy, itemsOf, clash, cE_lc, cS_for, d__law_some_contents, e1, h, -idx_l, dv3_lo, dv3_hi, idx2i, ← hM, M1, M3, hb, put_I, keys_dE', f1, sort_str, f2, f4, encCt]
  · obtain ⟨f1, f2, f3, f4⟩ := fin (dt t1 3) kvs hg (by omega)
    refine ⟨_, dt t1 3, f3, ?_⟩
    have h' : (dv t1 3 == 0) = false := by simpa using h
    rw [ev_succ (n + 2) i__law_some_contents d__law_some_contents rfl]
    rcases hv with rfl | ⟨x, rfl⟩ <;> simp [-Ev.bind, -Ev.of, rsOf, Def.rest, ioIdx, Ti.Arg.slot, place, E.muts, E.mutss, E.mutso, chg, updD, Ti.putF, Ti.appF, Ti.extF, Ti.insF, Ti.popF, okTg, S.muts, S.mutss, ending, outsOf, wn, Tg.put, Tg.puts, Tg.slots, Tg.slotss, noOw, wipeS, restore, isTy, itemsOf, clash, cE_lc, cS_for, d__law_some_contents, e1, h', keys_dE', f1, sort_str, f2, f4, encCt]
end
section
abbrev Bag := Int × String × Ct
def encBag (b : Bag) : D := .tup [.int b.1, .str b.2.1, encCt b.2.2]
abbrev encSh (sh : List Bag) : D := .lst (sh.map encBag)
/-- a bag as it is made -/
structure GBag (ms : List Mk) (b : Bag) : Prop where
  b1 : 1 ≤ b.1
  b2 : b.1 ≤ 999
  nm : b.2.1 ∈ ms.map (·.1)
  ct : GCt b.2.2
/-- a shelf as it is made -/
structure GShelf (ms : List Mk) (sh : List Bag) : Prop where
  len : sh.length ≤ 15
  lt : (sh.map (·.1)).Pairwise fun a b => a < b
  bags : ∀ b ∈ sh, GBag ms b
theorem put_B (kvs : List (Int × Bag)) (k b : Int) (x : String) (c : Ct) : putD (dE D.int encBag kvs) (.int k) (.tup [.int b, .str x, encCt c]) = dE D.int encBag (aput kvs k (b, x, c)) := put_dE key_int kvs k (b, x, c)
theorem look_B (kvs : List (Int × Bag)) (k : Int) : lookD (dE D.int encBag kvs) (.int k) = (aget kvs k).map encBag := look_dE key_int kvs k
theorem idx_mks {ms : List Mk} {K : Int} (h0 : 0 ≤ K) (h1 : K < ms.length) : ∃ m ∈ ms, idxD (encMks ms) (.int K) = some (encMk m) := by
  have : K.toNat < ms.length := by omega
  refine ⟨ms[K.toNat], List.getElem_mem _, ?_⟩
  unfold encMks
  rw [idx_t]
  simp [place, h0, h1, this]
theorem len_mks (ms : List Mk) : biD .len [encMks ms] = some (0, .int ms.length) := by
  unfold encMks
  rw [bi_len_tup, List.length_map]
@[simp] theorem idx_bag0 (b : Bag) : idxD (encBag b) (.int 0) = some (.int b.1) := id rfl
@[simp] theorem idx_bag1 (b : Bag) : idxD (encBag b) (.int 1) = some (.str b.2.1) := id rfl
@[simp] theorem idx_bag2 (b : Bag) : idxD (encBag b) (.int 2) = some (encCt b.2.2) := id rfl
theorem t_shelf (n k : Nat) (t : T) (ms : List Mk) (hm : ∀ m ∈ ms, GMk m) (hl : 1 ≤ ms.length) (hl4 : ms.length ≤ 8) (b v4 v5 v6 : Slot) (kvs : List (Int × Bag)) (hk : kvs.length < 1000) : ∃ (t' : T) (bag : Bag) (m : Mk), GBag ms bag ∧ forF (evDef tb (n + 3)) [0] 1000000 (.nm 4) b__law_a_shelf_1 (.int k) [.ow 1 t.1, .bo 0 (encMks ms), b, .ow 1 (.dct (dE D.int encBag kvs)), v4, v5, v6] = .nx [.ow 1 t'.1, .bo 0 (encMks ms), b, .ow 1 (.dct (dE D.int encBag (aput kvs bag.1 bag))), .bo 0 (.int k), .bo 0 (encMk m), .bo 0 (.int bag.1)] := by
  have m1 : (0 : Int) < ms.length := by omega
  have m2 : (ms.length : Int) < 1606938044258990275541962092341162602522202993782792835301376 := by omega
  have m0 : 0 < ms.length := hl
  obtain ⟨m, hmm, em⟩ := idx_mks (dv_lo t ms.length) (dv_hi t ms.length m1)
  obtain ⟨t1, ht1⟩ : ∃ t1, dt t ms.length = t1 := ⟨_, rfl⟩
  obtain ⟨B, hB⟩ : ∃ B, (if dv (dt (dt t1 12) 999) 3 / 2 = 0 then 1 + dv t1 12 else 1 + dv (dt t1 12) 999) = B := ⟨_, rfl⟩
  have hb : 1 ≤ B ∧ B ≤ 999 := by
    have h1 := dv_lo t1 12
    have h2 := dv_hi t1 12 (by decide)
    have h3 := dv_lo (dt t1 12) 999
    have h4 := dv_hi (dt t1 12) 999 (by decide)
    rw [← hB]
    split <;> omega
  obtain ⟨t2, ht2⟩ : ∃ t2, dt (dt (dt t1 12) 999) 3 = t2 := ⟨_, rfl⟩
  obtain ⟨c, t3, gc, ec⟩ := s_some_contents n t2 m (hm m hmm)
  have hkb : kvs.length < 16777216 := by omega
  refine ⟨t3, (B, m.1, c), m, ⟨hb.1, hb.2, List.mem_map.mpr ⟨m, hmm, rfl⟩, gc⟩, ?_⟩
  simp [-Ev.bind, -Ev.of, rsOf, Def.rest, ioIdx, Ti.Arg.slot, place, E.muts, E.mutss, E.mutso, chg, updD, Ti.putF, Ti.appF, Ti.extF, Ti.insF, Ti.popF, okTg, S.muts, S.mutss, ending, outsOf, wn, Tg.put, Tg.puts, Tg.slots, Tg.slotss, noOw, wipeS, restore, isTy, itemsOf, clash, cE_lc, cS_for, lcF, forF, len_mks, m0, m2, -idx_l, em, ht1, idx2i, dv3_lo, dv3_hi, hB, ht2, ec, put_B, hkb]
theorem s_a_shelf (n : Nat) (t : T) (ms : List Mk) (hm : ∀ m ∈ ms, GMk m) (hl : 1 ≤ ms.length) (hl4 : ms.length ≤ 8) (most : Int) (h0 : 0 ≤ most) (h15 : most ≤ 15) : ∃ (sh : List Bag) (t' : T), GShelf ms sh ∧ sh.length ≤ most ∧ evDef tb (n + 4) i__law_a_shelf [.io 1 t.1, .pv 0 (encMks ms), .pv 0 (.int most)] = .ok 1 (encSh sh) [t'.1] := by
  have m1 : 0 < most + 1 := by omega
  have m2 : most + 1 < 1606938044258990275541962092341162602522202993782792835301376 := by omega
  have d0 := dv_lo t (most + 1)
  have d1 := dv_hi t (most + 1) m1
  have hr := rng1 (j := dv t (most + 1)) (by omega) d0
  obtain ⟨s1, e1, t1, kvs, v4, v5, v6, g1, g2, g3, g4, rfl⟩ := forGo_pre (h := fun (k : Nat) => .int k) (f := forF (evDef tb (n + 3)) [0] 1000000 (.nm 4) b__law_a_shelf_1)
    (P := fun a s => ∃ (t' : T) (kvs : List (Int × Bag)) (v4 v5 v6 : Slot), (kvs.map (·.1)).Nodup ∧ kvs.length ≤ a.length ∧ (∀ p ∈ kvs, p.1 = p.2.1 ∧ GBag ms p.2) ∧ (v6 = .no ∨ ∃ x, v6 = .bo 0 x) ∧ s = [.ow 1 t'.1, .bo 0 (encMks ms), .bo 0 (.int most), .ow 1 (.dct (dE D.int encBag kvs)), v4, v5, v6])
    (List.range (dv t (most + 1)).toNat) [] [.ow 1 (dt t (most + 1)).1, .bo 0 (encMks ms), .bo 0 (.int most), .ow 1 (.dct []), .no, .no, .no] ⟨_, [], _, _, _, by simp, Nat.le_refl _, by simp, .inl rfl, rfl⟩ (by
      rintro a k b hab s ⟨t', kvs, v4, v5, v6, g1, g2, g3, g4, rfl⟩
      have hal : a.length ≤ 20 := by
        have := congrArg List.length hab
        rw [List.nil_append, List.length_append, List.length_range] at this
        omega
      obtain ⟨t2, bag, m, gb, e⟩ := t_shelf n k t' ms hm hl hl4 (.bo 0 (.int most)) v4 v5 v6 kvs (by omega)
      exact ⟨_, .inl e, t2, aput kvs bag.1 bag, _, _, _, aput_nodup _ _ g1, by have := aput_len kvs bag.1 bag; simp; omega, aput_all g3 ⟨rfl, gb⟩, .inr ⟨_, rfl⟩, rfl⟩)
  rw [List.nil_append, List.length_range] at g2
  have hks : keySort ((keys kvs).map D.int) = true := keySort_int (by rw [keys_length]; omega)
  have hsl : (sortI (keys kvs)).length = kvs.length := by rw [(sortI_perm _).length_eq, keys_length]
  have hbb : (sortI (keys kvs)).length ≤ 16777216 := by omega
  have hmem : ∀ k ∈ sortI (keys kvs), ∃ v, aget kvs k = some v ∧ v.1 = k ∧ GBag ms v := fun k hk => by
    obtain ⟨v, h1, h2⟩ := aget_some ((sortI_perm _).mem_iff.mp hk)
    exact ⟨v, h1, (g3 _ h2).1.symm, (g3 _ h2).2⟩
  have hlc : lcGo (lcF (evDef tb (n + 3)) [0] 1 e__law_a_shelf_1 (.nm 6) none) ((sortI (keys kvs)).map D.int) [.ow 1 t1.1, .bo 0 (encMks ms), .bo 0 (.int most), .ow 1 (.dct (dE D.int encBag kvs)), v4, v5, .no] = .ok ((sortI (keys kvs)).map fun k => encBag ((aget kvs k).getD (0, "", []))) [.ow 1 t1.1, .bo 0 (encMks ms), .bo 0 (.int most), .ow 1 (.dct (dE D.int encBag kvs)), v4, v5, .no] :=
    lcGo_each fun k hk => by
      obtain ⟨v, hv, _⟩ := hmem k hk
      simp [-Ev.bind, -Ev.of, rsOf, Def.rest, ioIdx, Ti.Arg.slot, place, E.muts, E.mutss, E.mutso, chg, updD, Ti.putF, Ti.appF, Ti.extF, Ti.insF, Ti.popF, okTg, S.muts, S.mutss, ending, outsOf, wn, Tg.put, Tg.puts, Tg.slots, Tg.slotss, noOw, wipeS, restore, isTy, itemsOf, clash, cE_lc, cS_for, lcF, forF, look_B, hv]
  refine ⟨(sortI (keys kvs)).map fun k => (aget kvs k).getD (0, "", []), t1, ⟨by rw [List.length_map]; omega, ?_, ?_⟩, by rw [List.length_map]; omega, ?_⟩
  · rw [List.map_map]
    have e : (sortI (keys kvs)).map ((fun x : Bag => x.1) ∘ fun k => (aget kvs k).getD (0, "", [])) = sortI (keys kvs) := by
      have : (sortI (keys kvs)).map ((fun x : Bag => x.1) ∘ fun k => (aget kvs k).getD (0, "", [])) = (sortI (keys kvs)).map id := by
        apply List.map_congr_left
        intro k hk
        obtain ⟨v, hv, h2, _⟩ := hmem k hk
        simp only [Function.comp, hv]
        exact h2
      rw [this, List.map_id]
    rw [e]
    exact sortI_lt g1
  · intro b hb
    obtain ⟨k, hk, rfl⟩ := List.mem_map.mp hb
    obtain ⟨v, hv, _, h3⟩ := hmem k hk
    rw [hv]
    exact h3
  · rw [ev_succ (n + 3) i__law_a_shelf d__law_a_shelf rfl]
    rcases g4 with rfl | ⟨x, rfl⟩ <;> simp [-Ev.bind, -Ev.of, rsOf, Def.rest, ioIdx, Ti.Arg.slot, place, E.muts, E.mutss, E.mutso, chg, updD, Ti.putF, Ti.appF, Ti.extF, Ti.insF, Ti.popF, okTg, S.muts, S.mutss, ending, outsOf, wn, Tg.put, Tg.puts, Tg.slots, Tg.slotss, noOw, wipeS, restore, isTy, itemsOf, clash, cE_lc, cS_for, d__law_a_shelf, m1, m2, hr, e1, keys_dE', hks, sort_int, hbb, hlc, Function.comp_def]
end
section
def mkOf (ms : List Mk) (x : String) : Option Mk := ms.find? fun m => decide (m.1 = x)
theorem mkOf_some {ms : List Mk} {x : String} (h : x ∈ ms.map (·.1)) : ∃ m, mkOf ms x = some m ∧ m ∈ ms ∧ m.1 = x := by
  obtain ⟨m, hm, rfl⟩ := List.mem_map.mp h
  unfold mkOf
  cases e : ms.find? fun q => decide (q.1 = m.1) with
  | none => exact absurd (List.find?_eq_none.mp e m hm) (by simp)
  | some q =>
    refine ⟨q, rfl, List.mem_of_find?_eq_some e, ?_⟩
    have := List.find?_some e
    simpa using this
end
section
theorem s_law_make_of (n : Nat) (ms : List Mk) (hl : ms.length ≤ 1000) (x : String) (m : Mk) (h : mkOf ms x = some m) : evDef tb (n + 1) i__law_make_of [.pv 0 (encMks ms), .pv 0 (.str x)] = .ok 0 (encMk m) [] := by
  have hl2 : ms.length ≤ 16777216 := by omega
  have e1 : lcGo (lcF (evDef tb n) [] 1 e__law_make_of_1 (.nm 2) c__law_make_of_1) (ms.map encMk) [.bo 0 (encMks ms), .bo 0 (.str x), .no] = .ok (ms.filterMap fun m => if m.1 = x then some (encMk m) else none) [.bo 0 (encMks ms), .bo 0 (.str x), .no] :=
    lcGo_some fun m _ => by
      by_cases h : m.1 = x
      · simp [-Ev.bind, -Ev.of, rsOf, Def.rest, ioIdx, Ti.Arg.slot, place, E.muts, E.mutss, E.mutso, chg, updD, Ti.putF, Ti.appF, Ti.extF, Ti.insF, Ti.popF, okTg, S.muts, S.mutss, ending, outsOf, wn, Tg.put, Tg.puts, Tg.slots, Tg.slotss, noOw, wipeS, restore, isTy, itemsOf, clash, cE_lc, cS_for, lcF, forF, h]
      · have h' : (m.1 == x) = false := by simpa using h
        simp [-Ev.bind, -Ev.of, rsOf, Def.rest, ioIdx, Ti.Arg.slot, place, E.muts, E.mutss, E.mutso, chg, updD, Ti.putF, Ti.appF, Ti.extF, Ti.insF, Ti.popF, okTg, S.muts, S.mutss, ending, outsOf, wn, Tg.put, Tg.puts, Tg.slots, Tg.slotss, noOw, wipeS, restore, isTy, itemsOf, clash, cE_lc, cS_for, lcF, forF, h, h']
  have e2 : (ms.filterMap fun m => if m.1 = x then some (encMk m) else none) = (ms.filter fun m => decide (m.1 = x)).map encMk := by
    clear e1 hl hl2 h
    induction ms with
    | nil => rfl
    | cons q ms ih =>
      rw [List.filterMap_cons, List.filter_cons, ih]
      by_cases h : q.1 = x
      · simp [h]
      · simp [h]
  have e3 : ∃ r, (ms.filter fun m => decide (m.1 = x)) = m :: r := by
    have : (ms.filter fun m => decide (m.1 = x)).head? = some m := by
      rw [List.head?_filter]
      exact h
    cases e : ms.filter fun m => decide (m.1 = x) with
    | nil => rw [e] at this; cases this
    | cons y r =>
      rw [e] at this
      cases this
      exact ⟨r, rfl⟩
  obtain ⟨r, e3⟩ := e3
  rw [e2, e3] at e1
  have h0 : (0 : Int) < (r.length : Int) + 1 := by omega
  rw [ev_succ n i__law_make_of d__law_make_of rfl]
  unfold encMks at *
  simp [-Ev.bind, -Ev.of, rsOf, Def.rest, ioIdx, Ti.Arg.slot, place, E.muts, E.mutss, E.mutso, chg, updD, Ti.putF, Ti.appF, Ti.extF, Ti.insF, Ti.popF, okTg, S.muts, S.mutss, ending, outsOf, wn, Tg.put, Tg.puts, Tg.slots, Tg.slotss, noOw, wipeS, restore, isTy, itemsOf, clash, cE_lc, cS_for, d__law_make_of, e1, hl2, h0]
end
section
theorem ok_kind {k : String} (h : k ∈ kindsL) : okD 40 (.str k) = true := by
  simp only [kindsL, List.mem_cons, List.not_mem_nil, or_false] at h
  rcases h with rfl | rfl | rfl | rfl | rfl | rfl <;> decide
theorem ok_name {k : String} (h : k ∈ namesL) : okD 40 (.str k) = true := by
  simp only [namesL, List.mem_cons, List.not_mem_nil, or_false] at h
  rcases h with rfl | rfl | rfl | rfl <;> decide
theorem ok_part {p : Part} (h : GPart p) : okD 40 (encPart p) = true ∧ (encPart p).dep ≤ 1 := by
  refine ⟨okD_tupOf (by show 3 ≤ 40; decide) fun x hx => ?_, ?_⟩
  · simp only [List.mem_cons, List.not_mem_nil, or_false] at hx
    rcases hx with rfl | rfl | rfl
    · exact ok_kind h.kind
    · rfl
    · rfl
  · unfold encPart
    rw [dep_tup]
    simp [D.deps, D.dep]
theorem ok_row {p : String × Int} (h : p.1 ∈ kindsL) : okD 40 (encRow p) = true ∧ (encRow p).dep ≤ 1 := by
  refine ⟨okD_tupOf (by show 2 ≤ 40; decide) fun x hx => ?_, ?_⟩
  · simp only [List.mem_cons, List.not_mem_nil, or_false] at hx
    rcases hx with rfl | rfl
    · exact ok_kind h
    · rfl
  · unfold encRow
    rw [dep_tup]
    simp [D.deps, D.dep]
theorem ok_mk {m : Mk} (h : GMk m) (hn : m.1 ∈ namesL) : okD 40 (encMk m) = true ∧ (encMk m).dep ≤ 3 := by
  have hl := h.len
  have hd : D.deps (m.2.2.map encPart) ≤ 1 := deps_le.mpr fun x hx => by
    obtain ⟨p, hp, rfl⟩ := List.mem_map.mp hx
    exact (ok_part (h.parts p hp)).2
  refine ⟨okD_tupOf (by show 3 ≤ 40; decide) fun x hx => ?_, ?_⟩
  · simp only [List.mem_cons, List.not_mem_nil, or_false] at hx
    rcases hx with rfl | rfl | rfl
    · exact ok_name hn
    · rfl
    · refine okD_tupOf (by rw [List.length_map]; omega) fun y hy => ?_
      obtain ⟨p, hp, rfl⟩ := List.mem_map.mp hy
      exact (ok_part (h.parts p hp)).1
  · unfold encMk
    rw [dep_tup]
    simp only [D.deps, dep_tup]
    have e1 : (D.str m.1).dep = 0 := rfl
    have e2 : (D.int m.2.1).dep = 0 := rfl
    rw [e1, e2]
    omega
theorem mks_name {ms : List Mk} (h : GMks ms) {m : Mk} (hm : m ∈ ms) : m.1 ∈ namesL := by
  obtain ⟨k, _, _, e⟩ := h.nm
  have : m.1 ∈ ms.map (·.1) := List.mem_map.mpr ⟨m, hm, rfl⟩
  rw [e] at this
  exact List.mem_of_mem_take this
theorem mks_len {ms : List Mk} (h : GMks ms) : 1 ≤ ms.length ∧ ms.length ≤ 4 := by
  obtain ⟨k, h1, h2, e⟩ := h.nm
  have := congrArg List.length e
  rw [List.length_map, List.length_take] at this
  have : namesL.length = 4 := rfl
  omega
theorem ok_mks {ms : List Mk} (h : GMks ms) : (∀ x ∈ ms.map encMk, okD 40 x = true) ∧ D.deps (ms.map encMk) ≤ 3 := by
  refine ⟨fun x hx => ?_, deps_le.mpr fun x hx => ?_⟩
  · obtain ⟨m, hm, rfl⟩ := List.mem_map.mp hx
    exact (ok_mk (h.all m hm) (mks_name h hm)).1
  · obtain ⟨m, hm, rfl⟩ := List.mem_map.mp hx
    exact (ok_mk (h.all m hm) (mks_name h hm)).2
theorem ok_ct {c : Ct} (h : GCt c) : (∀ x ∈ c.map encRow, okD 40 x = true) ∧ D.deps (c.map encRow) ≤ 1 := by
  refine ⟨fun x hx => ?_, deps_le.mpr fun x hx => ?_⟩
  · obtain ⟨m, hm, rfl⟩ := List.mem_map.mp hx
    exact (ok_row (h.rows m hm).1).1
  · obtain ⟨m, hm, rfl⟩ := List.mem_map.mp hx
    exact (ok_row (h.rows m hm).1).2
end
section
local instance pwcmp : PWc := ⟨none⟩
/-! comparable, up to the first difference -/
open PySem.W
mutual
theorem alk_cmpl : ∀ (a b : D), D.alk a b = true → D.cmpl a b = true
  | .tup xs, .tup ys, h => by
    rw [D.alk] at h
    rw [D.cmpl]
    exact alks_cmpl xs ys h
  | .non, b, h | .bl _, b, h | .int _, b, h | .str _, b, h | .lst _, b, h | .dct _, b, h | .scr _, b, h | .ins _ _, b, h | .dcn _, b, h => by cases b <;> exact h
  | .tup _, .non, h | .tup _, .bl _, h | .tup _, .int _, h | .tup _, .str _, h | .tup _, .lst _, h | .tup _, .dct _, h | .tup _, .scr _, h | .tup _, .ins _ _, h | .tup _, .dcn _, h => by simp [D.alk] at h
theorem alks_cmpl : ∀ (xs ys : List D), D.alks xs ys = true → D.cmpls xs ys = true
  | [], ys, _ => by cases ys <;> rfl
  | x :: xs, [], _ => rfl
  | x :: xs, y :: ys, h => by
    rw [D.alks, Bool.and_eq_true] at h
    rw [D.cmpls, Bool.and_eq_true]
    exact ⟨alk_cmpl x y h.1, by rw [alks_cmpl xs ys h.2, Bool.or_true]⟩
end
mutual
theorem eq_of_cmpl : ∀ (a b : D), D.cmpl a b = true → D.eqv a b = true → a = b
  | .tup xs, .tup ys, h, e => by
    rw [D.cmpl] at h
    rw [D.eqv] at e
    rw [eqs_of_cmpl xs ys h e]
  | .non, b, h, e | .bl _, b, h, e | .int _, b, h, e | .str _, b, h, e | .lst _, b, h, e | .dct _, b, h, e | .scr _, b, h, e | .ins _ _, b, h, e | .dcn _, b, h, e => eq_of_eqv (by cases b <;> exact h) e
  | .tup _, .non, h, e | .tup _, .bl _, h, e | .tup _, .int _, h, e | .tup _, .str _, h, e | .tup _, .lst _, h, e | .tup _, .dct _, h, e | .tup _, .scr _, h, e | .tup _, .ins _ _, h, e | .tup _, .dcn _, h, e => by simp [D.cmpl, D.alk] at h
theorem eqs_of_cmpl : ∀ (xs ys : List D), D.cmpls xs ys = true → D.eqvs xs ys = true → xs = ys
  | [], [], _, _ => rfl
  | [], _ :: _, _, e => by simp [D.eqvs] at e
  | _ :: _, [], _, e => by simp [D.eqvs] at e
  | x :: xs, y :: ys, h, e => by
    rw [D.cmpls, Bool.and_eq_true] at h
    rw [D.eqvs, Bool.and_eq_true] at e
    rw [e.1, Bool.not_true, Bool.false_or] at h
    rw [eq_of_cmpl x y h.1 e.1, eqs_of_cmpl xs ys h.2 e.2]
end
theorem eqvP_of_toks {x y : PySem.PyData} (h : cmpP x y = true) (e : keyToks x = keyToks y) : PySem.PyData.eqv x y = true := by
  cases q : PySem.PyData.eqv x y with
  | true => rfl
  | false =>
    have g := (toksP x y h).2 q [] [.inl 0]
    rw [e, PyProof.Rows.lex_irrefl] at g
    have g2 : PyProof.Rows.lexLt PyProof.Rows.itemOrd (keyToks y ++ []) (keyToks y ++ [.inl 0]) = PyProof.Rows.lexLt PyProof.Rows.itemOrd [] [Sum.inl 0] := lex_pre _ _ _
    rw [g2] at g
    exact absurd g (by decide)
theorem leC_antisymm {a b : D} (ha : a.flat = true) (hb : b.flat = true) (hk : D.cmpl a b = true) (h1 : leD a b = true) (h2 : leD b a = true) : a = b :=
  eq_of_cmpl _ _ hk (by rw [← D.eqv_pd a b ha hb]; exact eqvP_of_toks (cmpl_pd a b ha hb hk) (toks_of_le h1 h2))
/-- they can be compared, no dict within -/
def Cmps (xs : List D) : Prop := ∀ x ∈ xs, x.flat = true ∧ ∀ y ∈ xs, D.cmpl x y = true
theorem sortC_eq {xs ys : List D} (hp : ys.Perm xs) (hs : ys.Pairwise fun a b => leD a b = true) (ha : Cmps xs) : sortD xs = ys := by
  refine List.Perm.eq_of_pairwise (le := fun a b => leD a b = true) (fun a b m1 m2 h1 h2 => ?_) (sortD_sorted xs) hs ((sortD_perm xs).trans hp.symm)
  have m1' := (sortD_perm xs).mem_iff.mp m1
  have m2' := hp.mem_iff.mp m2
  exact leC_antisymm (ha a m1').1 (ha b m2').1 ((ha a m1').2 b m2') h1 h2
theorem sortC_congr {xs ys : List D} (hp : xs.Perm ys) (ha : Cmps xs) : sortD xs = sortD ys :=
  sortC_eq ((sortD_perm ys).trans hp.symm) (sortD_sorted ys) ha
theorem sortOk_cmp {xs : List D} (ha : Cmps xs) (hd : ∀ x ∈ xs, x.dep ≤ 60) (ht : (∀ x ∈ xs, isTup1 x = true) ∨ ∀ x ∈ xs, noTup x = true) : sortOk xs = true := by
  unfold sortOk
  simp only [Bool.and_eq_true, List.all_eq_true, decide_eq_true_eq, Bool.or_eq_true]
  exact ⟨⟨fun x hx y hy => .inr ((ha x hx).2 y hy), fun x hx => ⟨(ha x hx).1, hd x hx⟩⟩, ht⟩
end
section
def lettersL : List Char := "abcdefghijklmnopqrstuvwxyz".toList
noncomputable def lt26 (t : T) : Char := lettersL.getD (dv t 26).toNat 'a'
theorem idx_letter (t : T) : idxD (.str "abcdefghijklmnopqrstuvwxyz") (.int (dv t 26)) = some (.str (String.singleton (lt26 t))) := by
  have h1 := dv_lo t 26
  have h2 := dv_hi t 26 (by decide)
  have h3 : (dv t 26).toNat < lettersL.length := by show _ < 26; omega
  rw [idx_s, if_pos h1]
  show (lettersL[(dv t 26).toNat]?).map _ = _
  rw [List.getElem?_eq_getElem h3]
  unfold lt26
  rw [List.getD_eq_getElem?_getD, List.getElem?_eq_getElem h3]
  rfl
theorem joinS0_len : ∀ zs : List Char, (joinS "" (zs.map String.singleton)).length = zs.length
  | [] => rfl
  | [c] => by simp [joinS, String.length_singleton]
  | c :: d :: r => by
    have := joinS0_len (d :: r)
    simp only [List.map_cons, joinS] at this ⊢
    rw [String.length_append, String.length_append, this]
    simp [String.length_singleton]
    omega
theorem idx_ann (i : Int) (h0 : 0 ≤ i) (h1 : i < 4) : idxD (.lst [.str "ann", .str "bo", .str "cy", .str "dan"]) (.int i) = some (.str (["ann", "bo", "cy", "dan"].getD i.toNat "")) := idx_gets ["ann", "bo", "cy", "dan"] i h0 h1
theorem s_a_name (n : Nat) (t : T) : ∃ (h : String) (t' : T), h.length ≤ 8 ∧ evDef tb (n + 2) i__law_a_name [.io 1 t.1] = .ok 0 (.str h) [t'.1] := by
  have d1 := dv_lo t 6
  have d2 := dv_hi t 6 (by decide)
  by_cases h : dv t 6 < 4
  · refine ⟨["ann", "bo", "cy", "dan"].getD (dv t 6).toNat "", dt t 6, getD_all (P := fun x : String => x.length ≤ 8) (by decide) (by decide), ?_⟩
    rw [ev_succ (n + 1) i__law_a_name d__law_a_name rfl]
    simp [-Ev.bind, -Ev.of, rsOf, Def.rest, ioIdx, Ti.Arg.slot, place, E.muts, E.mutss, E.mutso, chg, updD, Ti.putF, Ti.appF, Ti.extF, Ti.insF, Ti.popF, okTg, S.muts, S.mutss, ending, outsOf, wn, Tg.put, Tg.puts, Tg.slots, Tg.slotss, noOw, wipeS, restore, isTy, itemsOf, clash, cE_lc, cS_for, d__law_a_name, h, -idx_l, idx_ann _ d1 h]
  · obtain ⟨m, hm, em⟩ : ∃ m : Int, (m = 1 ∨ m = 8) ∧ (if dv t 6 - 4 = 0 then (1 : Int) else 8) = m := ⟨_, by split <;> simp, rfl⟩
    have r0 : rngD [.int m] = some ((List.range m.toNat).map fun (k : Nat) => .int k) := rng1 (by omega) (by omega)
    obtain ⟨cs, s1, e1, t1, h1, rfl⟩ := lcGo_pre (h := fun (k : Nat) => D.int k) (g := fun c : Char => D.str (String.singleton c)) (f := lcF (evDef tb (n + 1)) [0] 1 e__law_a_name_1 (.nm 3) none)
      (P := fun (a : List Nat) (bs : List Char) s => ∃ t' : T, bs.length = a.length ∧ s = [.ow 1 t'.1, .bo 0 (.int (dv t 6)), .bo 0 (.str "abcdefghijklmnopqrstuvwxyz"), .no])
      (List.range m.toNat) [] [] [.ow 1 (dt t 6).1, .bo 0 (.int (dv t 6)), .bo 0 (.str "abcdefghijklmnopqrstuvwxyz"), .no] ⟨_, rfl, rfl⟩ (by
        rintro a x b bs hab s ⟨t', hl, rfl⟩
        refine ⟨some (lt26 t'), [.ow 1 (dt t' 26).1, .bo 0 (.int (dv t 6)), .bo 0 (.str "abcdefghijklmnopqrstuvwxyz"), .no], ?_, _, by simp [hl], rfl⟩
        simp [-Ev.bind, -Ev.of, rsOf, Def.rest, ioIdx, Ti.Arg.slot, place, E.muts, E.mutss, E.mutso, chg, updD, Ti.putF, Ti.appF, Ti.extF, Ti.insF, Ti.popF, okTg, S.muts, S.mutss, ending, outsOf, wn, Tg.put, Tg.puts, Tg.slots, Tg.slotss, noOw, wipeS, restore, isTy, itemsOf, clash, cE_lc, cS_for, lcF, forF, -idx_s, idx_letter])
    have hl : cs.length ≤ 8 := by
      simp only [List.nil_append, List.length_range] at h1
      omega
    have e2 : strsD (cs.map fun c => D.str (String.singleton c)) = some (cs.map String.singleton) := strs_some _ _
    have e3 := joinS0_len cs
    have e4 : ((cs.map String.singleton).map String.length).sum = cs.length := by
      rw [List.map_map]
      clear e1 h1 e2 e3 hl
      induction cs with
      | nil => rfl
      | cons c cs ih => rw [List.map_cons, List.sum_cons, ih]; simp [String.length_singleton]; omega
    have e5 : bmD .join (.str "") [.lst (cs.map fun c => D.str (String.singleton c))] = some (0, .str (joinS "" (cs.map String.singleton))) := by
      simp only [bmD, e2, Option.bind_some]
      rw [if_pos]
      rw [e3, e4]
      constructor
      · show cs.length + _ * 0 ≤ 16777216
        omega
      · show cs.length ≤ 16777216
        omega
    refine ⟨joinS "" (cs.map String.singleton), t1, by omega, ?_⟩
    have g0 : 0 ≤ dv t 6 - 4 := by omega
    have g1 : dv t 6 - 4 < 2 := by omega
    have hmb : m.toNat ≤ 16777216 := by omega
    have eX : idxD (.lst [.int 1, .int 8]) (.int (dv t 6 - 4)) = some (.int m) := by rw [idx2i _ _ _ g0 g1, em]
    rw [ev_succ (n + 1) i__law_a_name d__law_a_name rfl]
    simp [-Ev.bind, -Ev.of, rsOf, Def.rest, ioIdx, Ti.Arg.slot, place, E.muts, E.mutss, E.mutso, chg, updD, Ti.putF, Ti.appF, Ti.extF, Ti.insF, Ti.popF, okTg, S.muts, S.mutss, ending, outsOf, wn, Tg.put, Tg.puts, Tg.slots, Tg.slotss, noOw, wipeS, restore, isTy, itemsOf, clash, cE_lc, cS_for, d__law_a_name, h, -idx_l, eX, r0, e1, e5, hmb]
end
section
theorem insF_nat (i : Int) (r : RV) (d : D) (h : r.fit 0 = some d) (xs : List D) (hl : xs.length < 1000000) (h0 : 0 ≤ i) (h1 : i < 1000000) : Ti.insF i r 0 (.lst xs) = some (.lst (xs.take i.toNat ++ d :: xs.drop i.toNat)) := by
  have : xs.length < big ∧ 0 ≤ i ∧ i < 2 ^ 60 := ⟨by unfold big; omega, h0, by omega⟩
  simp only [Ti.insF]
  rw [if_pos this, h]
  rfl
theorem s_any_order (n : Nat) (t : T) (m : Int) (h0 : 0 ≤ m) (h1 : m ≤ 1000) : ∃ (js : List Nat) (t' : T), js.Perm (List.range m.toNat) ∧ evDef tb (n + 2) i__law_any_order [.io 1 t.1, .pv 0 (.int m)] = .ok 0 (.tup (js.map fun (k : Nat) => .int k)) [t'.1] := by
  have hr := rng1 (j := m) (by omega) h0
  obtain ⟨s1, e1, t1, js, v3, hp, rfl⟩ := forGo_pre (h := fun (k : Nat) => .int k) (f := forF (evDef tb (n + 1)) [0] 1000000 (.nm 3) b__law_any_order_1)
    (P := fun a s => ∃ (t' : T) (js : List Nat) (v3 : Slot), js.Perm a ∧ s = [.ow 1 t'.1, .bo 0 (.int m), .ow 1 (.lst (js.map fun (k : Nat) => .int k)), v3])
    (List.range m.toNat) [] [.ow 1 t.1, .bo 0 (.int m), .ow 1 (.lst []), .no] ⟨t, [], .no, List.Perm.refl _, rfl⟩ (by
      rintro a k b hab s ⟨t', js, v3, hp, rfl⟩
      have hl : a.length + (b.length + 1) = m.toNat := by
        have := congrArg List.length hab
        simpa using this.symm
      have hk : k < m.toNat := by
        have : k ∈ a ++ k :: b := by simp
        rw [← hab] at this
        simpa using this
      have q0 : (0 : Int) < (k : Int) + 1 := by omega
      have q1 : (k : Int) + 1 < 1606938044258990275541962092341162602522202993782792835301376 := by omega
      have d0 := dv_lo t' (k + 1)
      have d1 := dv_hi t' (k + 1) q0
      have hjl := hp.length_eq
      have e := insF_nat (dv t' (k + 1)) (.ow 0 (.int k)) (.int k) (by simp) (js.map fun (k : Nat) => .int k) (by rw [List.length_map]; omega) d0 (by omega)
      have ej : (js.map fun (k : Nat) => D.int k).take (dv t' (k + 1)).toNat ++ D.int k :: (js.map fun (k : Nat) => D.int k).drop (dv t' (k + 1)).toNat = (js.take (dv t' (k + 1)).toNat ++ k :: js.drop (dv t' (k + 1)).toNat).map fun (k : Nat) => D.int k := by simp
      rw [ej] at e
      refine ⟨_, .inl ?_, dt t' (k + 1), js.take (dv t' (k + 1)).toNat ++ k :: js.drop (dv t' (k + 1)).toNat, .bo 0 (.int k), ?_, rfl⟩
      · simp [-Ev.bind, -Ev.of, rsOf, Def.rest, ioIdx, Ti.Arg.slot, place, E.muts, E.mutss, E.mutso, chg, updD, Ti.putF, Ti.appF, Ti.extF, Ti.insF, Ti.popF, okTg, S.muts, S.mutss, ending, outsOf, wn, Tg.put, Tg.puts, Tg.slots, Tg.slotss, noOw, wipeS, restore, isTy, itemsOf, clash, cE_lc, cS_for, lcF, forF, -Ti.insF, q0, q1, e]
      · refine (List.perm_middle).trans ?_
        rw [List.take_append_drop]
        exact (hp.cons k).trans (List.perm_append_comm (l₁ := [k]) (l₂ := a)))
  refine ⟨js, t1, hp, ?_⟩
  rw [ev_succ (n + 1) i__law_any_order d__law_any_order rfl]
  simp [-Ev.bind, -Ev.of, rsOf, Def.rest, ioIdx, Ti.Arg.slot, place, E.muts, E.mutss, E.mutso, chg, updD, Ti.putF, Ti.appF, Ti.extF, Ti.insF, Ti.popF, okTg, S.muts, S.mutss, ending, outsOf, wn, Tg.put, Tg.puts, Tg.slots, Tg.slotss, noOw, wipeS, restore, isTy, itemsOf, clash, cE_lc, cS_for, d__law_any_order, hr, e1]
end
section
theorem s_fewer (n : Nat) (t : T) (c : Ct) (hc : GCt c) : ∃ (c' : Ct) (t' : T), GCt c' ∧ evDef tb (n + 2) i__law_fewer [.io 1 t.1, .pv 0 (encCt c)] = .ok 0 (encCt c') [t'.1] := by
  obtain ⟨rs, s1, e1, t1, hk, hb, rfl⟩ := lcGo_pre (h := encRow) (g := encRow) (f := lcF (evDef tb (n + 1)) [0] 1 e__law_fewer_1 (.tp [.nm 3, .nm 4]) none)
    (P := fun (a bs : List (String × Int)) s => ∃ t' : T, bs.map (·.1) = a.map (·.1) ∧ (∀ r ∈ bs, r.1 ∈ kindsL ∧ r.2 ≤ 99) ∧ s = [.ow 1 t'.1, .bo 0 (encCt c), .no, .no, .no, .no])
    c [] [] [.ow 1 t.1, .bo 0 (encCt c), .no, .no, .no, .no] ⟨t, rfl, by simp, rfl⟩ (by
      rintro a x b bs hab s ⟨t', hl, hb, rfl⟩
      have hx : x ∈ c := by
        have : x ∈ a ++ x :: b := by simp
        rw [← hab] at this
        simpa using this
      have d0 := dv_lo t' 2
      have d1 := dv_hi t' 2 (by decide)
      have d2 := dv_lo (dt t' 2) 3
      have d3 := dv_hi (dt t' 2) 3 (by decide)
      have hm : mulOk (dv t' 2) (dv (dt t' 2) 3) := .inl ⟨by omega, by omega⟩
      obtain ⟨p, hp⟩ : ∃ p, dv t' 2 * dv (dt t' 2) 3 = p := ⟨_, rfl⟩
      have hp0 : 0 ≤ p := by rw [← hp]; exact Int.mul_nonneg d0 d2
      refine ⟨some (x.1, x.2 - p), [.ow 1 (dt (dt t' 2) 3).1, .bo 0 (encCt c), .no, .no, .no, .no], ?_, _, by simp [hl], ?_, rfl⟩
      · simp [-Ev.bind, -Ev.of, rsOf, Def.rest, ioIdx, Ti.Arg.slot, place, E.muts, E.mutss, E.mutso, chg, updD, Ti.putF, Ti.appF, Ti.extF, Ti.insF, Ti.popF, okTg, S.muts, S.mutss, ending, outsOf, wn, Tg.put, Tg.puts, Tg.slots, Tg.slotss, noOw, wipeS, restore, isTy, itemsOf, clash, cE_lc, cS_for, lcF, forF, encRow, hm, hp]
      · intro r hr
        simp at hr
        rcases hr with hr | rfl
        · exact hb r hr
        · have := hc.rows x hx
          exact ⟨this.1, by show x.2 - p ≤ 99; omega⟩)
  simp only [List.nil_append] at hk
  have hrl : rs.length = c.length := by
    have := congrArg List.length hk
    simpa using this
  have e2 : lcGo (lcF (evDef tb (n + 1)) [0] 1 e__law_fewer_2 (.nm 5) c__law_fewer_2) (rs.map encRow) [.ow 1 t1.1, .bo 0 (encCt c), .bo 0 (.lst (rs.map encRow)), .no, .no, .no] = .ok (rs.filterMap fun r => if 0 < r.2 then some (encRow r) else none) [.ow 1 t1.1, .bo 0 (encCt c), .bo 0 (.lst (rs.map encRow)), .no, .no, .no] :=
    lcGo_some fun r _ => by
      by_cases h : 0 < r.2
      · simp [-Ev.bind, -Ev.of, rsOf, Def.rest, ioIdx, Ti.Arg.slot, place, E.muts, E.mutss, E.mutso, chg, updD, Ti.putF, Ti.appF, Ti.extF, Ti.insF, Ti.popF, okTg, S.muts, S.mutss, ending, outsOf, wn, Tg.put, Tg.puts, Tg.slots, Tg.slotss, noOw, wipeS, restore, isTy, itemsOf, clash, cE_lc, cS_for, lcF, forF, encRow, h]
      · simp [-Ev.bind, -Ev.of, rsOf, Def.rest, ioIdx, Ti.Arg.slot, place, E.muts, E.mutss, E.mutso, chg, updD, Ti.putF, Ti.appF, Ti.extF, Ti.insF, Ti.popF, okTg, S.muts, S.mutss, ending, outsOf, wn, Tg.put, Tg.puts, Tg.slots, Tg.slotss, noOw, wipeS, restore, isTy, itemsOf, clash, cE_lc, cS_for, lcF, forF, encRow, h]
  have e3 : (rs.filterMap fun r => if 0 < r.2 then some (encRow r) else none) = (rs.filter fun r => decide (0 < r.2)).map encRow := by
    rw [filter_map]
    congr 1
    funext r
    simp
  rw [e3] at e2
  have hcl := hc.len
  have hb1 : c.length ≤ 16777216 := by omega
  have hb2 : rs.length ≤ 16777216 := by omega
  refine ⟨rs.filter fun r => decide (0 < r.2), t1, ⟨?_, ?_, ?_⟩, ?_⟩
  · exact Nat.le_trans (List.length_filter_le _ _) (by omega)
  · have := hc.lt
    rw [← hk] at this
    exact this.sublist ((List.filter_sublist).map _)
  · intro r hr
    rw [List.mem_filter] at hr
    have := hb r (by simpa using hr.1)
    have h2 : 0 < r.2 := by simpa using hr.2
    exact ⟨this.1, by omega, this.2⟩
  · rw [ev_succ (n + 1) i__law_fewer d__law_fewer rfl]
    unfold encCt at *
    simp [-Ev.bind, -Ev.of, rsOf, Def.rest, ioIdx, Ti.Arg.slot, place, E.muts, E.mutss, E.mutso, chg, updD, Ti.putF, Ti.appF, Ti.extF, Ti.insF, Ti.popF, okTg, S.muts, S.mutss, ending, outsOf, wn, Tg.put, Tg.puts, Tg.slots, Tg.slotss, noOw, wipeS, restore, isTy, itemsOf, clash, cE_lc, cS_for, d__law_fewer, e1, e2, hb1, hb2]
end
section
inductive Pg where
  | lent (bag day : Int) (h : String) | back (bag day : Int) | waits (nm : String) (day : Int) (h : String) | cnt (bag day : Int) (c : Ct)
  deriving DecidableEq
def encPg : Pg → D
  | .lent b d h => .tup [.str "lent", .int b, .int d, .str h]
  | .back b d => .tup [.str "back", .int b, .int d]
  | .waits x d h => .tup [.str "waits", .str x, .int d, .str h]
  | .cnt b d c => .tup [.str "counted", .int b, .int d, encCt c]
/-- a page as it is made -/
def GPg (ms : List Mk) (ids : List Int) : Pg → Prop
  | .lent b d h => b ∈ ids ∧ 0 ≤ d ∧ d ≤ 1000000 ∧ h.length ≤ 8
  | .back b d => b ∈ ids ∧ 0 ≤ d ∧ d ≤ 1000000
  | .waits x d h => x ∈ ms.map (·.1) ∧ 0 ≤ d ∧ d ≤ 1000000 ∧ h.length ≤ 8
  | .cnt b d c => b ∈ ids ∧ 0 ≤ d ∧ d ≤ 1000000 ∧ GCt c
def fD (ps : List Pg) : D := if ps = [] then .dct [] else .dcn (ps.map encPg)
theorem nk_str (n : Nat) (x : String) : nkOk n (.str x) = true := by cases n <;> rfl
theorem nk_int (n : Nat) (x : Int) : nkOk n (.int x) = true := by cases n <;> rfl
theorem nk_row (n : Nat) (r : String × Int) : nkOk (n + 1) (encRow r) = true := by
  show nkOks n [.str r.1, .int r.2] = true
  simp only [nkOks, nk_str, nk_int, Bool.and_self]
theorem nk_ct (n : Nat) (c : Ct) : nkOks (n + 1) (c.map encRow) = true := by
  induction c with
  | nil => rfl
  | cons r c ih => rw [List.map_cons, nkOks, nk_row, ih]; rfl
theorem nk_pg (p : Pg) : nkT (encPg p) = true := by
  cases p with
  | cnt b d c =>
    show nkOks 7 [.str "counted", .int b, .int d, encCt c] = true
    simp only [nkOks, nk_str, nk_int, Bool.and_true, Bool.true_and]
    exact nk_ct 5 c
  | _ => simp only [encPg, nkT, nkOks, nk_str, nk_int, Bool.and_self]
theorem key_pg (p : Pg) : keyOk (encPg p) = false := by cases p <;> rfl
theorem put_pg (p : Pg) (ps : List Pg) (hl : ps.length < 1000000) : ∃ ps' : List Pg, (∀ q ∈ ps', q ∈ ps ∨ q = p) ∧ ps'.length ≤ ps.length + 1 ∧ Ti.putF (encPg p) (.ow 0 (.bl true)) 0 (fD ps) = some (fD ps') := by
  by_cases h : ps = []
  · subst h
    refine ⟨[p], by simp, by simp, ?_⟩
    simp [fD, Ti.putF, key_pg, nk_pg]
  · have hb : ps.length < big := by unfold big; omega
    by_cases ha : ((ps.map encPg).any fun x => D.eqv x (encPg p)) = true
    · refine ⟨ps, fun q m => .inl m, by omega, ?_⟩
      simp only [fD, if_neg h, Ti.putF, nk_pg, List.length_map]
      rw [if_pos ⟨trivial, hb⟩]
      simp only [RV.d, addN]
      rw [if_pos ha]
    · refine ⟨ps ++ [p], fun q m => by simpa using m, by simp, ?_⟩
      have hn : ps ++ [p] ≠ [] := by simp
      simp only [fD, if_neg h, if_neg hn, Ti.putF, nk_pg, List.length_map]
      rw [if_pos ⟨trivial, hb⟩]
      simp only [RV.d, addN]
      rw [if_neg ha]
      simp
theorem idx_cts (a b : Ct) (i : Int) (h0 : 0 ≤ i) (h1 : i < 2) : idxD (.lst [encCt a, encCt b]) (.int i) = some (encCt (if i = 0 then a else b)) := by
  rw [idx_get _ i h0 (by simpa using h1)]
  have : i = 0 ∨ i = 1 := by omega
  rcases this with rfl | rfl <;> rfl
theorem dv6_lo (t : T) : 0 ≤ dv t 6 / 5 := by have := dv_lo t 6; omega
theorem dv6_hi (t : T) : dv t 6 / 5 < 2 := by have := dv_hi t 6 (by decide); omega
theorem next_day (t : T) (d : Int) (h0 : 0 ≤ d) (h1 : d ≤ 1000000) : ∃ (d' : Int) (t' : T), 0 ≤ d' ∧ d' ≤ 1000000 ∧ (0 < if dv t 6 / 5 = 0 then (3 : Int) else 100000) ∧ ((if dv t 6 / 5 = 0 then (3 : Int) else 100000) < 1606938044258990275541962092341162602522202993782792835301376) ∧
    (if d + dv (dt t 6) (if dv t 6 / 5 = 0 then 3 else 100000) < 1000000 then d + dv (dt t 6) (if dv t 6 / 5 = 0 then 3 else 100000) else 1000000) = d' ∧ dt (dt t 6) (if dv t 6 / 5 = 0 then 3 else 100000) = t' := by
  have a0 := dv_lo (dt t 6) (if dv t 6 / 5 = 0 then 3 else 100000)
  generalize dv (dt t 6) (if dv t 6 / 5 = 0 then 3 else 100000) = x at a0
  refine ⟨_, _, ?_, ?_, pos_ite (by decide) (by decide), lt_ite (by decide) (by decide), rfl, rfl⟩
  · split <;> omega
  · split <;> omega
/-- one page is written -/
theorem t_page (n k : Nat) (t : T) (ms : List Mk) (hm : ∀ m ∈ ms, GMk m) (hml : ms.length ≤ 8) (ids : List Int) (sh most : D) (bag : Int) (name : String) (c0 here : Ct) (day : Int) (v5 v11 v12 : Slot) (ps : List Pg) (hb : bag ∈ ids) (hn : name ∈ ms.map (·.1)) (hh : GCt here) (h0 : 0 ≤ day) (h1 : day ≤ 1000000) (hp : ∀ p ∈ ps, GPg ms ids p) (hl : ps.length < 1000000) :
    ∃ (t' : T) (ps' : List Pg) (here' : Ct) (day' : Int) (way : Int), (∀ p ∈ ps', GPg ms ids p) ∧ ps'.length ≤ ps.length + 1 ∧ GCt here' ∧ 0 ≤ day' ∧ day' ≤ 1000000 ∧
      forF (evDef tb (n + 3)) [0] 1000000 (.nm 11) b__law_pages_1 (.int k) [.ow 1 t.1, .bo 0 (encMks ms), .bo 0 sh, .bo 0 most, .ow 1 (fD ps), v5, .bo 0 (.int bag), .bo 0 (.str name), .bo 0 (encCt c0), .bo 0 (.int day), .bo 0 (encCt here), v11, v12] =
        .nx [.ow 1 t'.1, .bo 0 (encMks ms), .bo 0 sh, .bo 0 most, .ow 1 (fD ps'), v5, .bo 0 (.int bag), .bo 0 (.str name), .bo 0 (encCt c0), .bo 0 (.int day'), .bo 0 (encCt here'), .bo 0 (.int k), .bo 0 (.int way)] := by
  have d0 := dv_lo t 9
  have d1 := dv_hi t 9 (by decide)
  by_cases w3 : dv t 9 < 3
  · obtain ⟨h, t2, gh, e2⟩ := s_a_name (n + 1) (dt t 9)
    obtain ⟨ps', p1, p2, p3⟩ := put_pg (.lent bag day h) ps hl
    simp only [encPg] at p3
    obtain ⟨d', t3, q0, q1, q2, q3, q4, q5⟩ := next_day t2 day h0 h1
    refine ⟨t3, ps', here, d', dv t 9, fun p m => (p1 p m).elim (hp p) fun e => by rw [e]; exact ⟨hb, h0, h1, gh⟩, p2, hh, q0, q1, ?_⟩
    simp [-Ev.bind, -Ev.of, rsOf, Def.rest, ioIdx, Ti.Arg.slot, place, E.muts, E.mutss, E.mutso, chg, updD, Ti.putF, Ti.appF, Ti.extF, Ti.insF, Ti.popF, okTg, S.muts, S.mutss, ending, outsOf, wn, Tg.put, Tg.puts, Tg.slots, Tg.slotss, noOw, wipeS, restore, isTy, itemsOf, clash, cE_lc, cS_for, lcF, forF, -Ti.putF, -idx_l, w3, e2, p3, idx2i, dv6_lo, dv6_hi, q2, q3, q4, q5]
  by_cases w6 : dv t 9 < 6
  · obtain ⟨ps', p1, p2, p3⟩ := put_pg (.back bag day) ps hl
    simp only [encPg] at p3
    obtain ⟨d', t3, q0, q1, q2, q3, q4, q5⟩ := next_day (dt t 9) day h0 h1
    refine ⟨t3, ps', here, d', dv t 9, fun p m => (p1 p m).elim (hp p) fun e => by rw [e]; exact ⟨hb, h0, h1⟩, p2, hh, q0, q1, ?_⟩
    simp [-Ev.bind, -Ev.of, rsOf, Def.rest, ioIdx, Ti.Arg.slot, place, E.muts, E.mutss, E.mutso, chg, updD, Ti.putF, Ti.appF, Ti.extF, Ti.insF, Ti.popF, okTg, S.muts, S.mutss, ending, outsOf, wn, Tg.put, Tg.puts, Tg.slots, Tg.slotss, noOw, wipeS, restore, isTy, itemsOf, clash, cE_lc, cS_for, lcF, forF, -Ti.putF, -idx_l, w3, w6, p3, idx2i, dv6_lo, dv6_hi, q2, q3, q4, q5]
  by_cases w7 : dv t 9 = 6
  · obtain ⟨h, t2, gh, e2⟩ := s_a_name (n + 1) (dt t 9)
    obtain ⟨ps', p1, p2, p3⟩ := put_pg (.waits name day h) ps hl
    simp only [encPg] at p3
    obtain ⟨d', t3, q0, q1, q2, q3, q4, q5⟩ := next_day t2 day h0 h1
    refine ⟨t3, ps', here, d', dv t 9, fun p m => (p1 p m).elim (hp p) fun e => by rw [e]; exact ⟨hn, h0, h1, gh⟩, p2, hh, q0, q1, ?_⟩
    simp [-Ev.bind, -Ev.of, rsOf, Def.rest, ioIdx, Ti.Arg.slot, place, E.muts, E.mutss, E.mutso, chg, updD, Ti.putF, Ti.appF, Ti.extF, Ti.insF, Ti.popF, okTg, S.muts, S.mutss, ending, outsOf, wn, Tg.put, Tg.puts, Tg.slots, Tg.slotss, noOw, wipeS, restore, isTy, itemsOf, clash, cE_lc, cS_for, lcF, forF, -Ti.putF, -idx_l, w7, e2, p3, idx2i, dv6_lo, dv6_hi, q2, q3, q4, q5]
  · obtain ⟨c1, t2, g1, e1⟩ := s_fewer (n + 1) (dt t 9) here hh
    obtain ⟨m, m1, m2, m3⟩ := mkOf_some hn
    have e2 := s_law_make_of (n + 2) ms (by omega) name m m1
    obtain ⟨c2, t3, g2, e3⟩ := s_some_contents n t2 m (hm m m2)
    have i0 : 0 ≤ dv t 9 - 7 := by omega
    have i1 : dv t 9 - 7 < 2 := by omega
    have ei := idx_cts c1 c2 (dv t 9 - 7) i0 i1
    obtain ⟨c3, hc3⟩ : ∃ c3, (if dv t 9 - 7 = 0 then c1 else c2) = c3 := ⟨_, rfl⟩
    rw [hc3] at ei
    have g3 : GCt c3 := by rw [← hc3]; split <;> assumption
    obtain ⟨ps', p1, p2, p3⟩ := put_pg (.cnt bag day c3) ps hl
    simp only [encPg] at p3
    obtain ⟨d', t4, q0, q1, q2, q3, q4, q5⟩ := next_day t3 day h0 h1
    have w7' : (dv t 9 == 6) = false := by simpa using w7
    refine ⟨t4, ps', c3, d', dv t 9, fun p m => (p1 p m).elim (hp p) fun e => by rw [e]; exact ⟨hb, h0, h1, g3⟩, p2, g3, q0, q1, ?_⟩
    simp [-Ev.bind, -Ev.of, rsOf, Def.rest, ioIdx, Ti.Arg.slot, place, E.muts, E.mutss, E.mutso, chg, updD, Ti.putF, Ti.appF, Ti.extF, Ti.insF, Ti.popF, okTg, S.muts, S.mutss, ending, outsOf, wn, Tg.put, Tg.puts, Tg.slots, Tg.slotss, noOw, wipeS, restore, isTy, itemsOf, clash, cE_lc, cS_for, lcF, forF, -Ti.putF, -idx_l, w3, w6, w7', e1, e2, e3, ei, p3, idx2i, dv6_lo, dv6_hi, q2, q3, q4, q5]
end
section
theorem t_bagpages (n : Nat) (t : T) (ms : List Mk) (hm : ∀ m ∈ ms, GMk m) (hml : ms.length ≤ 8) (ids : List Int) (sh : D) (most : Int) (m0 : 0 ≤ most) (m1 : most ≤ 30) (b : Bag) (hbi : b.1 ∈ ids) (hb : GBag ms b) (ps : List Pg) (hp : ∀ p ∈ ps, GPg ms ids p) (hl : ps.length < 900000) (v5 v6 v7 v8 v9 v10 v11 v12 : Slot) :
    ∃ (t' : T) (ps' : List Pg) (u9 u10 u11 u12 : Slot), (∀ p ∈ ps', GPg ms ids p) ∧ ps'.length ≤ ps.length + 30 ∧ (u11 = v11 ∨ ∃ x, u11 = .bo 0 x) ∧
      forF (evDef tb (n + 3)) [0] 1000000 (.tp [.nm 6, .nm 7, .nm 8]) b__law_pages_2 (encBag b) [.ow 1 t.1, .bo 0 (encMks ms), .bo 0 sh, .bo 0 (.int most), .ow 1 (fD ps), v5, v6, v7, v8, v9, v10, v11, v12] =
        .nx [.ow 1 t'.1, .bo 0 (encMks ms), .bo 0 sh, .bo 0 (.int most), .ow 1 (fD ps'), v5, .bo 0 (.int b.1), .bo 0 (.str b.2.1), .bo 0 (encCt b.2.2), u9, u10, u11, u12] := by
  have d0 := dv_lo t 9
  have d1 := dv_hi t 9 (by decide)
  have q0 : 0 < most + 1 := by omega
  have q1 : most + 1 < 1606938044258990275541962092341162602522202993782792835301376 := by omega
  have e0 := dv_lo (dt t 9) (most + 1)
  have e1 := dv_hi (dt t 9) (most + 1) q0
  have hr := rng1 (j := dv (dt t 9) (most + 1)) (by omega) e0
  obtain ⟨s1, e2, t1, ps1, here, day, u11, u12, g1, g2, g3, g4, g5, g6, rfl⟩ := forGo_pre (h := fun (k : Nat) => .int k) (f := forF (evDef tb (n + 3)) [0] 1000000 (.nm 11) b__law_pages_1)
    (P := fun a s => ∃ (t' : T) (ps1 : List Pg) (here : Ct) (day : Int) (u11 u12 : Slot), (∀ p ∈ ps1, GPg ms ids p) ∧ ps1.length ≤ ps.length + a.length ∧ GCt here ∧ 0 ≤ day ∧ day ≤ 1000000 ∧ (u11 = v11 ∨ ∃ x, u11 = .bo 0 x) ∧
      s = [.ow 1 t'.1, .bo 0 (encMks ms), .bo 0 sh, .bo 0 (.int most), .ow 1 (fD ps1), v5, .bo 0 (.int b.1), .bo 0 (.str b.2.1), .bo 0 (encCt b.2.2), .bo 0 (.int day), .bo 0 (encCt here), u11, u12])
    (List.range (dv (dt t 9) (most + 1)).toNat) [] [.ow 1 (dt (dt t 9) (most + 1)).1, .bo 0 (encMks ms), .bo 0 sh, .bo 0 (.int most), .ow 1 (fD ps), v5, .bo 0 (.int b.1), .bo 0 (.str b.2.1), .bo 0 (encCt b.2.2), .bo 0 (.int (dv t 9)), .bo 0 (encCt b.2.2), v11, v12] ⟨_, ps, b.2.2, dv t 9, v11, v12, hp, by simp, hb.ct, d0, by omega, .inl rfl, rfl⟩ (by
      rintro a k c hab s ⟨t', ps1, here, day, u11, u12, g1, g2, g3, g4, g5, g6, rfl⟩
      have hal : a.length ≤ 30 := by
        have := congrArg List.length hab
        rw [List.nil_append, List.length_append, List.length_range] at this
        omega
      obtain ⟨t2, ps2, here2, day2, way, h1, h2, h3, h4, h5, e⟩ := t_page n k t' ms hm hml ids sh (.int most) b.1 b.2.1 b.2.2 here day v5 u11 u12 ps1 hbi hb.nm g3 g4 g5 g1 (by omega)
      exact ⟨_, .inl e, t2, ps2, here2, day2, _, _, h1, by simp; omega, h3, h4, h5, .inr ⟨_, rfl⟩, rfl⟩)
  rw [List.nil_append, List.length_range] at g2
  refine ⟨t1, ps1, .bo 0 (.int day), .bo 0 (encCt here), u11, u12, g1, by omega, g6, ?_⟩
  simp [-Ev.bind, -Ev.of, rsOf, Def.rest, ioIdx, Ti.Arg.slot, place, E.muts, E.mutss, E.mutso, chg, updD, Ti.putF, Ti.appF, Ti.extF, Ti.insF, Ti.popF, okTg, S.muts, S.mutss, ending, outsOf, wn, Tg.put, Tg.puts, Tg.slots, Tg.slotss, noOw, wipeS, restore, isTy, itemsOf, clash, cE_lc, cS_for, lcF, forF, encBag, q0, q1, hr, e2]
theorem list_fD (ps : List Pg) : biD .list [fD ps] = some (1, .lst (ps.map encPg)) := by
  unfold fD
  split
  · rename_i h
    subst h
    rfl
  · rfl
theorem s_law_pages (n : Nat) (t : T) (ms : List Mk) (hm : ∀ m ∈ ms, GMk m) (hml : ms.length ≤ 8) (sh : List Bag) (hs : GShelf ms sh) (most : Int) (m0 : 0 ≤ most) (m1 : most ≤ 30) :
    ∃ (ps : List Pg) (t' : T), (∀ p ∈ ps, GPg ms (sh.map (·.1)) p) ∧ ps.length ≤ 500 ∧ evDef tb (n + 4) i__law_pages [.io 1 t.1, .pv 0 (encMks ms), .pv 0 (encSh sh), .pv 0 (.int most)] = .ok 1 (.lst (ps.map encPg)) [t'.1] := by
  obtain ⟨s1, e1, t1, ps, u6, u7, u8, u9, u10, u11, u12, g1, g2, g3, rfl⟩ := forGo_pre (h := encBag) (f := forF (evDef tb (n + 3)) [0] 1000000 (.tp [.nm 6, .nm 7, .nm 8]) b__law_pages_2)
    (P := fun a s => ∃ (t' : T) (ps : List Pg) (u6 u7 u8 u9 u10 u11 u12 : Slot), (∀ p ∈ ps, GPg ms (sh.map (·.1)) p) ∧ ps.length ≤ 30 * a.length ∧ (u11 = .no ∨ ∃ x, u11 = .bo 0 x) ∧
      s = [.ow 1 t'.1, .bo 0 (encMks ms), .bo 0 (encSh sh), .bo 0 (.int most), .ow 1 (fD ps), .no, u6, u7, u8, u9, u10, u11, u12])
    sh [] [.ow 1 t.1, .bo 0 (encMks ms), .bo 0 (encSh sh), .bo 0 (.int most), .ow 1 (fD []), .no, .no, .no, .no, .no, .no, .no, .no] ⟨t, [], .no, .no, .no, .no, .no, .no, .no, by simp, by simp, .inl rfl, rfl⟩ (by
      rintro a b c hab s ⟨t', ps, u6, u7, u8, u9, u10, u11, u12, g1, g2, g3, rfl⟩
      have hbm : b ∈ sh := by
        have : b ∈ a ++ b :: c := by simp
        rw [← hab] at this
        simpa using this
      have hal : a.length ≤ 15 := by
        have h1 := congrArg List.length hab
        have h2 := hs.len
        rw [List.nil_append, List.length_append] at h1
        omega
      obtain ⟨t2, ps2, w9, w10, w11, w12, h1, h2, h3, e⟩ := t_bagpages n t' ms hm hml (sh.map (·.1)) (encSh sh) most m0 m1 b (List.mem_map.mpr ⟨b, hbm, rfl⟩) (hs.bags b hbm) ps g1 (by omega) .no u6 u7 u8 u9 u10 u11 u12
      refine ⟨_, .inl e, t2, ps2, _, _, _, _, _, _, _, h1, by simp; omega, ?_, rfl⟩
      rcases h3 with rfl | h3
      · exact g3
      · exact .inr h3)
  rw [List.nil_append] at g2
  have hsl := hs.len
  obtain ⟨js, t2, hj, e2⟩ := s_any_order (n + 1) t1 ps.length (by omega) (by omega)
  have hlj : js.length = ps.length := by
    have := hj.length_eq
    simpa using this
  have hjb : ∀ j ∈ js, j < ps.length := fun j m => by
    have := hj.mem_iff.mp m
    simpa using this
  have e3 : ∀ u6 u7 u8 u9 u10 u12, lcGo (lcF (evDef tb (n + 3)) [0] 1 e__law_pages_1 (.nm 11) none) (js.map fun (k : Nat) => .int k) [.ow 1 t2.1, .bo 0 (encMks ms), .bo 0 (encSh sh), .bo 0 (.int most), .ow 1 (fD ps), .bo 0 (.lst (ps.map encPg)), u6, u7, u8, u9, u10, .no, u12] =
      .ok (js.map fun k => encPg (ps.getD k (.back 0 0))) [.ow 1 t2.1, .bo 0 (encMks ms), .bo 0 (encSh sh), .bo 0 (.int most), .ow 1 (fD ps), .bo 0 (.lst (ps.map encPg)), u6, u7, u8, u9, u10, .no, u12] := fun u6 u7 u8 u9 u10 u12 =>
    lcGo_each fun k hk => by
      have hlt := hjb k hk
      have ei : idxD (.lst (ps.map encPg)) (.int k) = some (encPg (ps.getD k (.back 0 0))) := by
        rw [idx_get _ _ (by omega) (by rw [List.length_map]; omega)]
        simp [List.getD_eq_getElem?_getD, List.getElem?_map, List.getElem?_eq_getElem hlt]
      simp [-Ev.bind, -Ev.of, rsOf, Def.rest, ioIdx, Ti.Arg.slot, place, E.muts, E.mutss, E.mutso, chg, updD, Ti.putF, Ti.appF, Ti.extF, Ti.insF, Ti.popF, okTg, S.muts, S.mutss, ending, outsOf, wn, Tg.put, Tg.puts, Tg.slots, Tg.slotss, noOw, wipeS, restore, isTy, itemsOf, clash, cE_lc, cS_for, lcF, forF, -idx_l, ei]
  have hlb : ps.length ≤ 16777216 := by omega
  have hlb2 : js.length ≤ 16777216 := by omega
  refine ⟨js.map fun k => ps.getD k (.back 0 0), t2, fun p m => ?_, by rw [List.length_map]; omega, ?_⟩
  · obtain ⟨k, hk, rfl⟩ := List.mem_map.mp m
    exact g1 _ (getD_mem (hjb k hk))
  · have f0 : fD [] = .dct [] := rfl
    rw [f0] at e1
    rw [ev_succ (n + 3) i__law_pages d__law_pages rfl]
    rcases g3 with rfl | ⟨x, rfl⟩ <;> simp [-Ev.bind, -Ev.of, rsOf, Def.rest, ioIdx, Ti.Arg.slot, place, E.muts, E.mutss, E.mutso, chg, updD, Ti.putF, Ti.appF, Ti.extF, Ti.insF, Ti.popF, okTg, S.muts, S.mutss, ending, outsOf, wn, Tg.put, Tg.puts, Tg.slots, Tg.slotss, noOw, wipeS, restore, isTy, itemsOf, clash, cE_lc, cS_for, d__law_pages, e1, list_fD, e2, e3, hlb, hlb2, Function.comp_def]
end
section
theorem s_setting (n : Nat) (t : T) (bags most : Int) (b0 : 0 ≤ bags) (b1 : bags ≤ 15) (m0 : 0 ≤ most) (m1 : most ≤ 30) :
    ∃ (ms : List Mk) (sh : List Bag) (ps : List Pg) (t' : T), GMks ms ∧ GShelf ms sh ∧ (∀ p ∈ ps, GPg ms (sh.map (·.1)) p) ∧ ps.length ≤ 500 ∧
      evDef tb (n + 5) i__law_setting [.io 1 t.1, .pv 0 (.int bags), .pv 0 (.int most)] = .ok 0 (.tup [encMks ms, encSh sh, .lst (ps.map encPg)]) [t'.1] := by
  obtain ⟨ms, t1, gm, e1⟩ := s_a_makes n t
  have hml := mks_len gm
  obtain ⟨sh, t2, gs, _, e2⟩ := s_a_shelf n t1 ms gm.all hml.1 (by omega) bags b0 b1
  obtain ⟨ps, t3, gp, gl, e3⟩ := s_law_pages n t2 ms gm.all (by omega) sh gs most m0 m1
  refine ⟨ms, sh, ps, t3, gm, gs, gp, gl, ?_⟩
  rw [ev_succ (n + 4) i__law_setting d__law_setting rfl]
  simp [-Ev.bind, -Ev.of, rsOf, Def.rest, ioIdx, Ti.Arg.slot, place, E.muts, E.mutss, E.mutso, chg, updD, Ti.putF, Ti.appF, Ti.extF, Ti.insF, Ti.popF, okTg, S.muts, S.mutss, ending, outsOf, wn, Tg.put, Tg.puts, Tg.slots, Tg.slotss, noOw, wipeS, restore, isTy, itemsOf, clash, cE_lc, cS_for, d__law_setting, e1, e2, e3]
end
section
open PySem.W
local instance pwls : PWc := ⟨none⟩
def pgDay : Pg → Int
  | .lent _ d _ | .back _ d | .waits _ d _ | .cnt _ d _ => d
def pgIdx : Pg → Nat
  | .back .. => 0 | .cnt .. => 1 | .lent .. => 2 | .waits .. => 3
/-- a page of this bag -/
def ofBag (b : Int) : Pg → Bool
  | .lent c _ _ | .back c _ | .cnt c _ _ => c == b
  | .waits .. => false
def kD (p : Pg) : D := .tup [.int (pgDay p), .int (pgIdx p), encPg p]
def kP (p : Pg) : D := .tup [.tup [.int (pgDay p), .int (pgIdx p)], encPg p]
/-- pages by day and word -/
def srtP (ps : List Pg) : List Pg := ps.mergeSort fun a b => leD (kD a) (kD b)
theorem flat_row (r : String × Int) : (encRow r).flat = true := rfl
theorem flats_map {α : Type} {f : α → D} (h : ∀ a, (f a).flat = true) : ∀ l : List α, D.flats (l.map f) = true
  | [] => rfl
  | a :: l => by rw [List.map_cons, D.flats, h a, flats_map h l]; rfl
theorem flat_ct (c : Ct) : (encCt c).flat = true := by
  show D.flats (c.map encRow) = true
  exact flats_map flat_row c
theorem flat_pg (p : Pg) : (encPg p).flat = true := by
  cases p with
  | cnt b d c => simp [encPg, D.flat, D.flats, flat_ct]
  | _ => rfl
theorem deps_map {α : Type} {f : α → D} {k : Nat} (h : ∀ a, (f a).dep ≤ k) : ∀ l : List α, D.deps (l.map f) ≤ k
  | [] => Nat.zero_le _
  | a :: l => by
    rw [List.map_cons, D.deps]
    exact Nat.max_le.mpr ⟨h a, deps_map h l⟩
theorem dep_row (r : String × Int) : (encRow r).dep ≤ 1 := by simp [encRow, D.dep, D.deps]
theorem dep_ct (c : Ct) : (encCt c).dep ≤ 2 := by
  have := deps_map dep_row c
  show D.deps (c.map encRow) + 1 ≤ 2
  omega
theorem dep_pg (p : Pg) : (encPg p).dep ≤ 3 := by
  cases p with
  | cnt b d c =>
    have := dep_ct c
    simp [encPg, D.dep, D.deps]
    omega
  | _ => simp [encPg, D.dep, D.deps]
theorem flat_kD (p : Pg) : (kD p).flat = true := by simp [kD, D.flat, D.flats, flat_pg]
theorem flat_kP (p : Pg) : (kP p).flat = true := by simp [kP, D.flat, D.flats, flat_pg]
theorem dep_kD (p : Pg) : (kD p).dep ≤ 60 := by
  have := dep_pg p
  simp [kD, D.dep, D.deps]
  omega
theorem dep_kP (p : Pg) : (kP p).dep ≤ 60 := by
  have := dep_pg p
  simp [kP, D.dep, D.deps]
  omega
theorem alks_rows : ∀ a b : List (String × Int), D.alks (a.map encRow) (b.map encRow) = true
  | [], b => by cases b <;> rfl
  | x :: a, [] => rfl
  | x :: a, y :: b => by
    rw [List.map_cons, List.map_cons, D.alks, alks_rows a b]
    rfl
theorem alk_ct (a b : Ct) : D.alk (encCt a) (encCt b) = true := by
  show D.alks _ _ = true
  exact alks_rows a b
theorem alk_pg {p q : Pg} (h : pgIdx p = pgIdx q) : D.alk (encPg p) (encPg q) = true := by
  cases p <;> cases q <;> first | (simp [pgIdx] at h; done) | (simp [encPg, D.alk, D.alks, alk_ct])
theorem eqvs_two (a b c d : D) : D.eqvs [a, b] [c, d] = (D.eqv a c && D.eqv b d) := by simp [D.eqvs]
theorem cmpl_int (i j : Int) : D.cmpl (.int i) (.int j) = true := by simp [D.cmpl, D.alk]
theorem cmpl_kD (p q : Pg) : D.cmpl (kD p) (kD q) = true := by
  show D.cmpls _ _ = true
  rw [D.cmpls, cmpl_int, Bool.true_and, D.cmpls, cmpl_int, Bool.true_and]
  by_cases h : pgIdx p = pgIdx q
  · rw [D.cmpls, alk_cmpl _ _ (alk_pg h)]
    simp [D.cmpls]
  · have : D.eqv (.int (pgIdx p)) (.int (pgIdx q)) = false := by
      rw [eqv_int]
      simp
      omega
    rw [this]
    simp
theorem cmpl_kP (p q : Pg) : D.cmpl (kP p) (kP q) = true := by
  show D.cmpls _ _ = true
  have h1 : D.cmpl (.tup [.int (pgDay p), .int (pgIdx p)]) (.tup [.int (pgDay q), .int (pgIdx q)]) = true := alk_cmpl _ _ (by simp [D.alk, D.alks])
  rw [D.cmpls, h1, Bool.true_and]
  by_cases h : pgIdx p = pgIdx q
  · rw [D.cmpls, alk_cmpl _ _ (alk_pg h)]
    simp [D.cmpls]
  · have : D.eqv (.tup [.int (pgDay p), .int (pgIdx p)]) (.tup [.int (pgDay q), .int (pgIdx q)]) = false := by
      rw [D.eqv, eqvs_two, eqv_int, eqv_int]
      have : ((pgIdx p : Int) == (pgIdx q : Int)) = false := by simp; omega
      rw [this, Bool.and_false]
    rw [this]
    simp
theorem ltD_int1 {i j : Int} {xs ys : List D} : ltD (.tup (.int i :: xs)) (.tup (.int j :: ys)) = if i = j then ltD (.tup xs) (.tup ys) else decide (i < j) := by
  rw [ltD_tup (x := .int i) (y := .int j) rfl rfl (by simp [D.alk]), eqv_int, ltD_int]
  by_cases h : i = j <;> simp [h]
theorem lt_kP (p q : Pg) : ltD (kP p) (kP q) = ltD (kD p) (kD q) := by
  unfold kP kD
  rw [ltD_tup (x := .tup [.int (pgDay p), .int (pgIdx p)]) (y := .tup [.int (pgDay q), .int (pgIdx q)]) rfl rfl (by simp [D.alk, D.alks])]
  rw [ltD_int1, ltD_int1, ltD_int1, ltD_int1, D.eqv, eqvs_two, eqv_int, eqv_int, ltD_self]
  generalize (pgIdx p : Int) = a
  generalize (pgIdx q : Int) = b
  by_cases h1 : pgDay p = pgDay q <;> by_cases h2 : a = b <;> simp [h1, h2]
theorem le_kP (p q : Pg) : leD (kP p) (kP q) = leD (kD p) (kD q) := by rw [leD_lt, leD_lt, lt_kP]
theorem sort_kD (ps : List Pg) : sortD (ps.map kD) = (srtP ps).map kD := by
  unfold sortD srtP
  exact (List.map_mergeSort (f := kD) (r := fun a b => leD (kD a) (kD b)) (s := dataLe false D.pd) fun a _ b _ => rfl).symm
theorem sort_kP (ps : List Pg) : sortD (ps.map kP) = (srtP ps).map kP := by
  unfold sortD srtP
  exact (List.map_mergeSort (f := kP) (r := fun a b => leD (kD a) (kD b)) (s := dataLe false D.pd) fun a _ b _ => (le_kP a b).symm).symm
theorem cmps_kD (ps : List Pg) : Cmps (ps.map kD) := fun x hx => by
  obtain ⟨p, _, rfl⟩ := List.mem_map.mp hx
  exact ⟨flat_kD p, fun y hy => by obtain ⟨q, _, rfl⟩ := List.mem_map.mp hy; exact cmpl_kD p q⟩
theorem cmps_kP (ps : List Pg) : Cmps (ps.map kP) := fun x hx => by
  obtain ⟨p, _, rfl⟩ := List.mem_map.mp hx
  exact ⟨flat_kP p, fun y hy => by obtain ⟨q, _, rfl⟩ := List.mem_map.mp hy; exact cmpl_kP p q⟩
theorem sortOk_kD (ps : List Pg) : sortOk (ps.map kD) = true := sortOk_cmp (cmps_kD ps) (fun x hx => by obtain ⟨p, _, rfl⟩ := List.mem_map.mp hx; exact dep_kD p) (.inl fun x hx => by obtain ⟨p, _, rfl⟩ := List.mem_map.mp hx; rfl)
theorem sortOk_kP (ps : List Pg) : sortOk (ps.map kP) = true := sortOk_cmp (cmps_kP ps) (fun x hx => by obtain ⟨p, _, rfl⟩ := List.mem_map.mp hx; exact dep_kP p) (.inl fun x hx => by obtain ⟨p, _, rfl⟩ := List.mem_map.mp hx; rfl)
theorem encRow_inj {a b : String × Int} (h : encRow a = encRow b) : a = b := by
  obtain ⟨x, i⟩ := a
  obtain ⟨y, j⟩ := b
  simp [encRow] at h
  rw [h.1, h.2]
theorem encCt_inj {a b : Ct} (h : encCt a = encCt b) : a = b := by
  unfold encCt at h
  injection h with h
  exact map_inj (fun _ _ => encRow_inj) h
theorem encPg_inj {p q : Pg} (h : encPg p = encPg q) : p = q := by
  cases p <;> cases q <;> simp [encPg] at h ⊢ <;> try exact h
  exact ⟨h.1, h.2.1, encCt_inj h.2.2⟩
theorem kD_inj {p q : Pg} (h : kD p = kD q) : p = q := by
  simp [kD] at h
  exact encPg_inj h.2.2
theorem srtP_perm (ps : List Pg) : (srtP ps).Perm ps := List.mergeSort_perm _ _
theorem srtP_eq {ps qs : List Pg} (h : ps.Perm qs) : srtP ps = srtP qs := by
  have := sortC_congr (h.map kD) (cmps_kD ps)
  rw [sort_kD, sort_kD] at this
  exact map_inj (fun _ _ => kD_inj) this
theorem srtP_filter (ps : List Pg) (f : Pg → Bool) : srtP (ps.filter f) = (srtP ps).filter f := by
  have hs : ((srtP ps).map kD).Pairwise fun a b => leD a b = true := by
    rw [← sort_kD]; exact sortD_sorted _
  have h2 : (((srtP ps).filter f).map kD).Pairwise fun a b => leD a b = true := hs.sublist ((List.filter_sublist).map _)
  have hp : (((srtP ps).filter f).map kD).Perm ((ps.filter f).map kD) := ((srtP_perm ps).filter f).map kD
  have := sortC_eq hp h2 (cmps_kD _)
  rw [sort_kD] at this
  exact map_inj (fun _ _ => kD_inj) this
end
section
abbrev Ft := Int × Pg × String
abbrev Lk := Int × Int × String × Int × List String
abbrev Ld := Int × Int × String
def encFt (f : Ft) : D := .tup [.int f.1, encPg f.2.1, .str f.2.2]
def encLk (l : Lk) : D := .tup [.int l.1, .int l.2.1, .str l.2.2.1, .int l.2.2.2.1, .lst (l.2.2.2.2.map D.str)]
def encLd (l : Ld) : D := .tup [.int l.1, .int l.2.1, .str l.2.2]
def encO : Option String → D
  | none => .non
  | some h => .str h
def encDay : Option Int → D
  | none => .non
  | some d => .int d
/-- a bag's life -/
structure Lf where
  con : Ct
  house : Option String
  since : List String
  wrong : List Ft
  missing : List Lk
  lend : List Ld
def encLf (l : Lf) : D := .ins "Life" [("contents", encCt l.con), ("house", encO l.house), ("since", .lst (l.since.map D.str)), ("wrong", .lst (l.wrong.map encFt)), ("missing", .lst (l.missing.map encLk)), ("lendings", .lst (l.lend.map encLd))]
def newLf (c : Ct) : Lf := ⟨c, none, [], [], [], []⟩
def faultOf : Option String → Pg → Option String
  | none, .back .. => some "in"
  | some _, .back .. => none
  | none, _ => none
  | some _, .lent .. => some "out"
  | some _, _ => some "away"
def srtS (xs : List String) : List String := sortS xs.eraseDups
def lackRow (since : List String) (b d : Int) (c : Ct) (r : String × Int) : Option Lk := if (aget c r.1).getD 0 < r.2 then some (b, d, r.1, r.2 - (aget c r.1).getD 0, srtS since) else none
def pgBag : Pg → Int
  | .lent b .. | .back b .. | .cnt b .. => b
  | .waits .. => 0
def goL (l : Lf) (p : Pg) : Lf := match faultOf l.house p with
  | some w => { l with wrong := l.wrong ++ [(pgBag p, p, w)] }
  | none => match p with
    | .back .. => { l with house := none }
    | .lent b d h => { l with house := some h, since := l.since ++ [h], lend := l.lend ++ [(d, b, h)] }
    | .cnt b d c => { l with con := c, since := [], missing := l.missing ++ l.con.filterMap (lackRow l.since b d c) }
    | .waits .. => l
/-- small enough, well made -/
structure GLf (n : Nat) (l : Lf) : Prop where
  con : GCt l.con
  s : l.since.length ≤ n
  w : l.wrong.length ≤ n
  m : l.missing.length ≤ 9 * n
  d : l.lend.length ≤ n
theorem gLf_go {n : Nat} {l : Lf} {p : Pg} (h : GLf n l) (hp : ∀ b d c, p = .cnt b d c → GCt c) : GLf (n + 1) (goL l p) := by
  have h1 := h.s
  have h2 := h.w
  have h3 := h.m
  have h4 := h.d
  have e : ∀ (b d : Int) (c : Ct), (l.con.filterMap (lackRow l.since b d c)).length ≤ 9 := fun b d c => Nat.le_trans (List.length_filterMap_le _ _) h.con.len
  unfold goL
  split
  · exact ⟨h.con, by dsimp only; omega, by simp only [List.length_append, List.length_cons, List.length_nil]; omega, by dsimp only; omega, by dsimp only; omega⟩
  · split
    · exact ⟨h.con, by dsimp only; omega, by dsimp only; omega, by dsimp only; omega, by dsimp only; omega⟩
    · exact ⟨h.con, by simp only [List.length_append, List.length_cons, List.length_nil]; omega, by dsimp only; omega, by dsimp only; omega, by simp only [List.length_append, List.length_cons, List.length_nil]; omega⟩
    · rename_i b d c _
      have := e b d c
      exact ⟨hp _ _ _ rfl, by simp, by dsimp only; omega, by simp only [List.length_append]; omega, by dsimp only; omega⟩
    · exact ⟨h.con, by omega, by omega, by omega, by omega⟩
theorem solid_rows (k : Nat) : ∀ c : List (String × Int), (c.map encRow).all (solid k) = true
  | [] => rfl
  | r :: c => by
    rw [List.map_cons, List.all_cons, solid_rows k c]
    cases k with
    | zero => rfl
    | succ k => simp [encRow, solid, solid_str, solid_int]
theorem solid_ct (k : Nat) (c : Ct) : solid k (encCt c) = true := by
  cases k with
  | zero => rfl
  | succ k => exact solid_rows k c
theorem solid_pg (k : Nat) (p : Pg) : solid k (encPg p) = true := by
  cases k with
  | zero => cases p <;> rfl
  | succ k => cases p <;> simp [encPg, solid, solid_str, solid_int, solid_ct]
theorem solid_o (k : Nat) (o : Option String) : solid k (encO o) = true := by
  cases o with
  | none => exact solid_non k
  | some h => exact solid_str k h
@[simp] theorem walk_bo1 (d : D) (ms : List Nat) (o : Option (List D)) : (RV.bo [] 1 d).walk ms o = o := by simp [RV.walk, clash]
@[simp] theorem fit_ct (k : Nat) (c : Ct) : (RV.ow 0 (encCt c)).fit k = some (encCt c) := by simp [RV.fit, solid_ct]
@[simp] theorem fit_pg (k : Nat) (p : Pg) : (RV.ow 0 (encPg p)).fit k = some (encPg p) := by simp [RV.fit, solid_pg]
theorem all_str (k : Nat) : ∀ xs : List String, (xs.map D.str).all (solid k) = true
  | [] => rfl
  | x :: xs => by rw [List.map_cons, List.all_cons, all_str k xs, solid_str]; rfl
@[simp] theorem deep_strs (xs : List String) : deep 1 3 (.lst (xs.map D.str)) = true := by
  show (xs.map D.str).all (deep 0 2) = true
  exact all_str 2 xs
@[simp] theorem solid_strs (xs : List String) : solid 3 (.lst (xs.map D.str)) = false := rfl
theorem setD_strs : ∀ xs : List String, setD (xs.map D.str) = xs.eraseDups.map D.str
  | [] => rfl
  | x :: xs => by
    have e1 : intsD ((x :: xs).map D.str) = none := rfl
    unfold setD
    rw [e1, strs_map]
theorem sortset_strs (xs : List String) (h : xs.length < 4000) : biD .sortset [.lst (xs.map D.str)] = some (1, .lst ((srtS xs).map D.str)) := by
  have hk : keySet (xs.map D.str) = true := by
    unfold keySet
    rw [strs_map, List.length_map]
    simp [h]
  show (if keySet (xs.map D.str) = true then some ((1 : Nat), D.lst (sortD (setD (xs.map D.str)))) else none) = _
  rw [if_pos hk, setD_strs, sort_str]
  rfl
theorem dict_ct {c : Ct} (h : GCt c) : biD .dict [encCt c] = some (1, .dct (dE D.str D.int c)) := by
  unfold encCt
  rw [bi_dict_tup]
  have := dict_nodup (ek := D.str) (ev := D.int) key_str key_s (lt_nodup h.lt)
  exact this
theorem get_ct (c : Ct) (k : String) : bmD .get (.dct (dE D.str D.int c)) [.str k, .int 0] = some (0, .int ((aget c k).getD 0)) := by
  rw [bm_get, if_pos ⟨rfl, rfl⟩]
  have := look_dE (ev := D.int) key_str c k
  rw [this]
  cases aget c k <;> rfl
theorem s_life_init (n : Nat) (c : Ct) : evDef tb (n + 1) i_Life___init__ [.io 4 (.ins "Life" []), .pv 0 (encCt c)] = .ok 0 .non [encLf (newLf c)] := by
  rw [ev_succ n i_Life___init__ d_Life___init__ rfl]
  simp [-Ev.bind, -Ev.of, rsOf, Def.rest, ioIdx, Ti.Arg.slot, place, E.muts, E.mutss, E.mutso, chg, updD, Ti.putF, Ti.appF, Ti.extF, Ti.insF, Ti.popF, okTg, S.muts, S.mutss, ending, outsOf, wn, Tg.put, Tg.puts, Tg.slots, Tg.slotss, noOw, wipeS, restore, isTy, itemsOf, clash, cE_lc, cS_for, d_Life___init__, Ti.fsetF, encLf, newLf, encO]
end
section
theorem fldL_house (l : Lf) : fldD "Life" "house" (encLf l) = some (encO l.house) := by simp [encLf, List.lookup]
theorem fldL_con (l : Lf) : fldD "Life" "contents" (encLf l) = some (encCt l.con) := by simp [encLf, List.lookup]
theorem fldL_since (l : Lf) : fldD "Life" "since" (encLf l) = some (.lst (l.since.map D.str)) := by simp [encLf, List.lookup]
theorem fldL_wrong (l : Lf) : fldD "Life" "wrong" (encLf l) = some (.lst (l.wrong.map encFt)) := by simp [encLf, List.lookup]
theorem fldL_missing (l : Lf) : fldD "Life" "missing" (encLf l) = some (.lst (l.missing.map encLk)) := by simp [encLf, List.lookup]
theorem fldL_lend (l : Lf) : fldD "Life" "lendings" (encLf l) = some (.lst (l.lend.map encLd)) := by simp [encLf, List.lookup]
theorem isn_o (o : Option String) : cmpD .isn (encO o) .non = some o.isNone := by cases o <;> rfl
theorem nsn_o (o : Option String) : cmpD .nsn (encO o) .non = some o.isSome := by cases o <;> rfl
@[simp] theorem isn_int (x : Int) : cmpD .isn (.int x) .non = some false := id rfl
@[simp] theorem nsn_int (x : Int) : cmpD .nsn (.int x) .non = some true := id rfl
@[simp] theorem isn_non : cmpD .isn .non .non = some true := id rfl
@[simp] theorem isn_str (x : String) : cmpD .isn (.str x) .non = some false := id rfl
@[simp] theorem nsn_non : cmpD .nsn .non .non = some false := id rfl
@[simp] theorem nsn_str (x : String) : cmpD .nsn (.str x) .non = some true := id rfl
def pgWord : Pg → String
  | .lent .. => "lent" | .back .. => "back" | .cnt .. => "counted" | .waits .. => "waits"
theorem pg_0 (p : Pg) : idxD (encPg p) (.int 0) = some (.str (pgWord p)) := by cases p <;> rfl
theorem pg_2 (p : Pg) : idxD (encPg p) (.int 2) = some (.int (pgDay p)) := by cases p <;> rfl
theorem pg_1 {p : Pg} {b : Int} (h : ofBag b p = true) : idxD (encPg p) (.int 1) = some (.int (pgBag p)) := by cases p <;> first | (cases h; done) | rfl
theorem s_fault_of (n : Nat) (l : Lf) (p : Pg) (b : Int) (h : ofBag b p = true) : evDef tb (n + 1) i_Life_fault_of [.pv 4 (encLf l), .pv 0 (encPg p)] = .ok 0 (encO (faultOf l.house p)) [] := by
  rw [ev_succ n i_Life_fault_of d_Life_fault_of rfl]
  cases p with
  | waits => cases h
  | back b d => cases hh : l.house <;> simp [-Ev.bind, -Ev.of, rsOf, Def.rest, ioIdx, Ti.Arg.slot, place, E.muts, E.mutss, E.mutso, chg, updD, Ti.putF, Ti.appF, Ti.extF, Ti.insF, Ti.popF, okTg, S.muts, S.mutss, ending, outsOf, wn, Tg.put, Tg.puts, Tg.slots, Tg.slotss, noOw, wipeS, restore, isTy, itemsOf, clash, cE_lc, cS_for, d_Life_fault_of, fldL_house, solid_o, solid_non, solid_str, pg_0, pgWord, hh, faultOf, encO]
  | lent b d x => cases hh : l.house <;> simp [-Ev.bind, -Ev.of, rsOf, Def.rest, ioIdx, Ti.Arg.slot, place, E.muts, E.mutss, E.mutso, chg, updD, Ti.putF, Ti.appF, Ti.extF, Ti.insF, Ti.popF, okTg, S.muts, S.mutss, ending, outsOf, wn, Tg.put, Tg.puts, Tg.slots, Tg.slotss, noOw, wipeS, restore, isTy, itemsOf, clash, cE_lc, cS_for, d_Life_fault_of, fldL_house, solid_o, solid_non, solid_str, pg_0, pgWord, hh, faultOf, encO]
  | cnt b d x => cases hh : l.house <;> simp [-Ev.bind, -Ev.of, rsOf, Def.rest, ioIdx, Ti.Arg.slot, place, E.muts, E.mutss, E.mutso, chg, updD, Ti.putF, Ti.appF, Ti.extF, Ti.insF, Ti.popF, okTg, S.muts, S.mutss, ending, outsOf, wn, Tg.put, Tg.puts, Tg.slots, Tg.slotss, noOw, wipeS, restore, isTy, itemsOf, clash, cE_lc, cS_for, d_Life_fault_of, fldL_house, solid_o, solid_non, solid_str, pg_0, pgWord, hh, faultOf, encO]
def fkL (f : String) : D := .ins "Life" [(f, .non)]
theorem app_missing (l : Lf) (x : Lk) (h : l.missing.length < 1000000) : Ti.updD 4 (encLf l) [fkL "missing"] (Ti.appF (.ow 2 (encLk x))) = some (encLf { l with missing := l.missing ++ [x] }) := by
  have hb : l.missing.length < big := by unfold big; omega
  simp [encLf, fkL, Ti.updD, Ti.appF, hb, List.lookup]
theorem t_count (n : Nat) (l : Lf) (b d : Int) (c c0 : Ct) (r : String × Int) (v3 v4 : Slot) (hs : l.since.length < 4000) (hm : l.missing.length < 1000000) :
    forF (evDef tb n) [0] 1000000 (.tp [.nm 3, .nm 4]) b_Life_count_1 (encRow r) [.ow 4 (encLf l), .bo 0 (encPg (.cnt b d c0)), .bo 0 (.dct (dE D.str D.int c)), v3, v4] =
      .nx [.ow 4 (encLf { l with missing := l.missing ++ (lackRow l.since b d c r).toList }), .bo 0 (encPg (.cnt b d c0)), .bo 0 (.dct (dE D.str D.int c)), .bo 0 (.str r.1), .bo 0 (.int r.2)] := by
  have p1 : idxD (encPg (.cnt b d c0)) (.int 1) = some (.int b) := rfl
  have p2 : idxD (encPg (.cnt b d c0)) (.int 2) = some (.int d) := rfl
  by_cases h : (aget c r.1).getD 0 < r.2
  · have e := app_missing l (b, d, r.1, r.2 - (aget c r.1).getD 0, srtS l.since) hm
    simp only [encLk, fkL] at e
    simp [-Ev.bind, -Ev.of, rsOf, Def.rest, ioIdx, Ti.Arg.slot, place, E.muts, E.mutss, E.mutso, chg, updD, Ti.putF, Ti.appF, Ti.extF, Ti.insF, Ti.popF, okTg, S.muts, S.mutss, ending, outsOf, wn, Tg.put, Tg.puts, Tg.slots, Tg.slotss, noOw, wipeS, restore, isTy, itemsOf, clash, cE_lc, cS_for, lcF, forF, -Ti.updD, -Ti.appF, encRow, get_ct, h, p1, p2, fldL_since, sortset_strs _ hs, e, lackRow]
  · simp [-Ev.bind, -Ev.of, rsOf, Def.rest, ioIdx, Ti.Arg.slot, place, E.muts, E.mutss, E.mutso, chg, updD, Ti.putF, Ti.appF, Ti.extF, Ti.insF, Ti.popF, okTg, S.muts, S.mutss, ending, outsOf, wn, Tg.put, Tg.puts, Tg.slots, Tg.slotss, noOw, wipeS, restore, isTy, itemsOf, clash, cE_lc, cS_for, lcF, forF, encRow, get_ct, h, lackRow]
theorem app_wrong (l : Lf) (x : Ft) (h : l.wrong.length < 1000000) : Ti.updD 4 (encLf l) [fkL "wrong"] (Ti.appF (.ow 2 (encFt x))) = some (encLf { l with wrong := l.wrong ++ [x] }) := by
  have hb : l.wrong.length < big := by unfold big; omega
  simp [encLf, fkL, Ti.updD, Ti.appF, hb, List.lookup]
theorem app_lend (l : Lf) (x : Ld) (h : l.lend.length < 1000000) : Ti.updD 4 (encLf l) [fkL "lendings"] (Ti.appF (.ow 2 (encLd x))) = some (encLf { l with lend := l.lend ++ [x] }) := by
  have hb : l.lend.length < big := by unfold big; omega
  simp [encLf, fkL, Ti.updD, Ti.appF, hb, List.lookup]
theorem app_since (l : Lf) (x : String) (h : l.since.length < 1000000) : Ti.updD 4 (encLf l) [fkL "since"] (Ti.appF (.ow 0 (.str x))) = some (encLf { l with since := l.since ++ [x] }) := by
  have hb : l.since.length < big := by unfold big; omega
  simp [encLf, fkL, Ti.updD, Ti.appF, hb, List.lookup]
theorem isC_lf (l : Lf) : isC "Life" "fault_of" (encLf l) = true ∧ isC "Life" "count" (encLf l) = true ∧ isC "Life" "go" (encLf l) = true := by
  refine ⟨?_, ?_, ?_⟩ <;> simp [encLf, List.lookup]
theorem fset_con (l : Lf) (c : Ct) : Ti.fsetF "Life" "contents" (.ow 0 (encCt c)) 3 (encLf l) = some (encLf { l with con := c }) := by simp [Ti.fsetF, encLf]
theorem fset_since (l : Lf) : Ti.fsetF "Life" "since" (.ow 3 (.lst [])) 3 (encLf l) = some (encLf { l with since := [] }) := by simp [Ti.fsetF, encLf]
theorem fset_house (l : Lf) (x : String) : Ti.fsetF "Life" "house" (.ow 0 (.str x)) 3 (encLf l) = some (encLf { l with house := some x }) := by simp [Ti.fsetF, encLf, encO]
theorem fset_home (l : Lf) : Ti.fsetF "Life" "house" (.ow 0 .non) 3 (encLf l) = some (encLf { l with house := none }) := by simp [Ti.fsetF, encLf, encO]
theorem upd_nil (k : Nat) (l : Lf) (f : Nat → D → Option D) : Ti.updD (k + 1) (encLf l) [] f = f k (encLf l) := rfl
theorem s_count (n : Nat) (l : Lf) (b d : Int) (c : Ct) (hc : GCt c) {N : Nat} (g : GLf N l) (hN : N ≤ 600) : evDef tb (n + 1) i_Life_count [.io 4 (encLf l), .pv 0 (encPg (.cnt b d c))] = .ok 0 .non [encLf { l with con := c, since := [], missing := l.missing ++ l.con.filterMap (lackRow l.since b d c) }] := by
  have h1 := g.s
  have h3 := g.m
  have h5 := g.con.len
  obtain ⟨s1, e1, v3, v4, hv, rfl⟩ := forGo_pre (h := encRow) (f := forF (evDef tb n) [0] 1000000 (.tp [.nm 3, .nm 4]) b_Life_count_1)
    (P := fun a s => ∃ v3 v4 : Slot, (v3 = .no ∨ ∃ x, v3 = .bo 0 x) ∧ s = [.ow 4 (encLf { l with missing := l.missing ++ a.filterMap (lackRow l.since b d c) }), .bo 0 (encPg (.cnt b d c)), .bo 0 (.dct (dE D.str D.int c)), v3, v4])
    l.con [] [.ow 4 (encLf l), .bo 0 (encPg (.cnt b d c)), .bo 0 (.dct (dE D.str D.int c)), .no, .no] ⟨.no, .no, .inl rfl, by simp⟩ (by
      rintro a x r hab s ⟨v3, v4, hv, rfl⟩
      have hal : a.length ≤ 9 := by
        have := congrArg List.length hab
        rw [List.nil_append, List.length_append] at this
        omega
      have e2 : (a.filterMap (lackRow l.since b d c)).length ≤ 9 := Nat.le_trans (List.length_filterMap_le _ _) hal
      have e := t_count n { l with missing := l.missing ++ a.filterMap (lackRow l.since b d c) } b d c c x v3 v4 (by dsimp only; omega) (by simp only [List.length_append]; omega)
      refine ⟨_, .inl e, .bo 0 (.str x.1), .bo 0 (.int x.2), .inr ⟨_, rfl⟩, ?_⟩
      have hfm : (a ++ [x]).filterMap (lackRow l.since b d c) = a.filterMap (lackRow l.since b d c) ++ (lackRow l.since b d c x).toList := by
        rw [List.filterMap_append]
        cases hh : lackRow l.since b d c x <;> simp [hh]
      rw [hfm, ← List.append_assoc])
  have p3 : idxD (encPg (.cnt b d c)) (.int 3) = some (encCt c) := rfl
  have hs : (RV.ow 3 (.lst [])).fit 3 = some (.lst []) := by simp
  have ei : itemsOf (encCt l.con) = some (l.con.map encRow) := rfl
  rw [List.nil_append] at e1
  rw [ev_succ n i_Life_count d_Life_count rfl]
  simp [-Ev.bind, -Ev.of, rsOf, Def.rest, ioIdx, Ti.Arg.slot, place, E.muts, E.mutss, E.mutso, chg, updD, Ti.putF, Ti.appF, Ti.extF, Ti.insF, Ti.popF, okTg, S.muts, S.mutss, ending, outsOf, wn, Tg.put, Tg.puts, Tg.slots, Tg.slotss, noOw, wipeS, restore, isTy, itemsOf, clash, cE_lc, cS_for, -itemsOf, -Ti.updD, -Ti.fsetF, d_Life_count, p3, dict_ct hc, fldL_con, solid_ct, e1, ei, upd_nil, fset_con, fset_since]
theorem s_go (n : Nat) (l : Lf) (p : Pg) (b : Int) (hp : ofBag b p = true) (hc : ∀ b d c, p = .cnt b d c → GCt c) {N : Nat} (g : GLf N l) (hN : N ≤ 600) : evDef tb (n + 2) i_Life_go [.io 4 (encLf l), .pv 0 (encPg p)] = .ok 0 .non [encLf (goL l p)] := by
  have h1 := g.s
  have h2 := g.w
  have h4 := g.d
  have e0 := s_fault_of n l p b hp
  have b1 := pg_1 hp
  rw [ev_succ (n + 1) i_Life_go d_Life_go rfl]
  cases hf : faultOf l.house p with
  | some w =>
    rw [hf] at e0
    have e := app_wrong l (pgBag p, p, w) (by omega)
    simp only [encFt, fkL] at e
    simp [-Ev.bind, -Ev.of, rsOf, Def.rest, ioIdx, Ti.Arg.slot, place, E.muts, E.mutss, E.mutso, chg, updD, Ti.putF, Ti.appF, Ti.extF, Ti.insF, Ti.popF, okTg, S.muts, S.mutss, ending, outsOf, wn, Tg.put, Tg.puts, Tg.slots, Tg.slotss, noOw, wipeS, restore, isTy, itemsOf, clash, cE_lc, cS_for, -Ti.updD, -Ti.appF, d_Life_go, isC_lf, e0, encO, b1, e, goL, hf]
  | none =>
    rw [hf] at e0
    cases p with
    | waits => cases hp
    | back b d => simp [-Ev.bind, -Ev.of, rsOf, Def.rest, ioIdx, Ti.Arg.slot, place, E.muts, E.mutss, E.mutso, chg, updD, Ti.putF, Ti.appF, Ti.extF, Ti.insF, Ti.popF, okTg, S.muts, S.mutss, ending, outsOf, wn, Tg.put, Tg.puts, Tg.slots, Tg.slotss, noOw, wipeS, restore, isTy, itemsOf, clash, cE_lc, cS_for, -Ti.updD, -Ti.fsetF, d_Life_go, isC_lf, e0, encO, goL, hf, pg_0, pgWord, upd_nil, fset_home]
    | lent b d x =>
      have p1 : idxD (encPg (.lent b d x)) (.int 1) = some (.int b) := rfl
      have p2 : idxD (encPg (.lent b d x)) (.int 2) = some (.int d) := rfl
      have p3 : idxD (encPg (.lent b d x)) (.int 3) = some (.str x) := rfl
      have f2 := app_since { l with house := some x } x (by dsimp only; omega)
      have f3 := app_lend { l with house := some x, since := l.since ++ [x] } (d, b, x) (by dsimp only; omega)
      simp only [fkL, encLd] at f2 f3
      simp [-Ev.bind, -Ev.of, rsOf, Def.rest, ioIdx, Ti.Arg.slot, place, E.muts, E.mutss, E.mutso, chg, updD, Ti.putF, Ti.appF, Ti.extF, Ti.insF, Ti.popF, okTg, S.muts, S.mutss, ending, outsOf, wn, Tg.put, Tg.puts, Tg.slots, Tg.slotss, noOw, wipeS, restore, isTy, itemsOf, clash, cE_lc, cS_for, -Ti.updD, -Ti.appF, -Ti.fsetF, d_Life_go, isC_lf, e0, encO, goL, hf, pg_0, pgWord, p1, p2, p3, upd_nil, fset_house, f2, f3]
    | cnt b d c =>
      have e := s_count n l b d c (hc _ _ _ rfl) g hN
      simp [-Ev.bind, -Ev.of, rsOf, Def.rest, ioIdx, Ti.Arg.slot, place, E.muts, E.mutss, E.mutso, chg, updD, Ti.putF, Ti.appF, Ti.extF, Ti.insF, Ti.popF, okTg, S.muts, S.mutss, ending, outsOf, wn, Tg.put, Tg.puts, Tg.slots, Tg.slotss, noOw, wipeS, restore, isTy, itemsOf, clash, cE_lc, cS_for, d_Life_go, isC_lf, e0, encO, goL, hf, pg_0, pgWord, e]
end
section
def dayOk : Option Int → Pg → Bool
  | none, _ => true
  | some d, p => decide (pgDay p ≤ d)
def lifeOn (c : Ct) (ps : List Pg) : Lf := ps.foldl goL (newLf c)
def lifeOf (b : Bag) (ps : List Pg) (day : Option Int) : Lf := lifeOn b.2.2 ((srtP (ps.filter (ofBag b.1))).filter (dayOk day))
theorem sh_one : ∀ {sh : List Bag} {b : Bag}, (sh.map (·.1)).Pairwise (fun a b => a < b) → b ∈ sh → sh.filter (fun x => decide (x.1 = b.1)) = [b]
  | [], b, _, m => by cases m
  | x :: sh, b, h, m => by
    rw [List.map_cons, List.pairwise_cons] at h
    rw [List.filter_cons]
    rcases List.mem_cons.mp m with rfl | m
    · have : sh.filter (fun x => decide (x.1 = b.1)) = [] := by
        rw [List.filter_eq_nil_iff]
        intro y hy
        have := h.1 y.1 (List.mem_map.mpr ⟨y, hy, rfl⟩)
        simp
        omega
      simp [this]
    · have h1 := h.1 b.1 (List.mem_map.mpr ⟨b, m, rfl⟩)
      have : ¬ x.1 = b.1 := by omega
      simp only [this, decide_false]
      exact sh_one h.2 m
theorem flat_bag (b : Bag) : (encBag b).flat = true := by simp [encBag, D.flat, D.flats, flat_ct]
theorem ofBag_bag {b : Int} {p : Pg} (h : ofBag b p = true) : pgBag p = b := by cases p <;> first | (cases h; done) | (simpa [ofBag, pgBag] using h)
theorem ct_of {ms : List Mk} {ids : List Int} {p : Pg} (h : GPg ms ids p) : ∀ b d c, p = .cnt b d c → GCt c := fun b d c e => by subst e; exact h.2.2.2
theorem t_some (n : Nat) (b : Int) (p : Pg) (a0 a1 a3 a4 a5 a6 a7 a9 : Slot) : lcF (evDef tb n) [] 1 e_life_of_2 (.nm 8) c_life_of_2 (encPg p) [a0, a1, .bo 0 (.int b), a3, a4, a5, a6, a7, .no, a9] = .ok (if ofBag b p = true then some (encPg p) else none) [a0, a1, .bo 0 (.int b), a3, a4, a5, a6, a7, .no, a9] := by
  cases p with
  | waits x d h => simp [-Ev.bind, -Ev.of, rsOf, Def.rest, ioIdx, Ti.Arg.slot, place, E.muts, E.mutss, E.mutso, chg, updD, Ti.putF, Ti.appF, Ti.extF, Ti.insF, Ti.popF, okTg, S.muts, S.mutss, ending, outsOf, wn, Tg.put, Tg.puts, Tg.slots, Tg.slotss, noOw, wipeS, restore, isTy, itemsOf, clash, cE_lc, cS_for, lcF, forF, pg_0, pgWord, ofBag]
  | back c d =>
    have p1 : idxD (encPg (.back c d)) (.int 1) = some (.int c) := rfl
    by_cases h : c = b
    · subst h
      simp [-Ev.bind, -Ev.of, rsOf, Def.rest, ioIdx, Ti.Arg.slot, place, E.muts, E.mutss, E.mutso, chg, updD, Ti.putF, Ti.appF, Ti.extF, Ti.insF, Ti.popF, okTg, S.muts, S.mutss, ending, outsOf, wn, Tg.put, Tg.puts, Tg.slots, Tg.slotss, noOw, wipeS, restore, isTy, itemsOf, clash, cE_lc, cS_for, lcF, forF, pg_0, pgWord, ofBag, p1]
    · have h' : (c == b) = false := by simpa using h
      simp [-Ev.bind, -Ev.of, rsOf, Def.rest, ioIdx, Ti.Arg.slot, place, E.muts, E.mutss, E.mutso, chg, updD, Ti.putF, Ti.appF, Ti.extF, Ti.insF, Ti.popF, okTg, S.muts, S.mutss, ending, outsOf, wn, Tg.put, Tg.puts, Tg.slots, Tg.slotss, noOw, wipeS, restore, isTy, itemsOf, clash, cE_lc, cS_for, lcF, forF, pg_0, pgWord, ofBag, p1, h']
  | lent c d x =>
    have p1 : idxD (encPg (.lent c d x)) (.int 1) = some (.int c) := rfl
    by_cases h : c = b
    · subst h
      simp [-Ev.bind, -Ev.of, rsOf, Def.rest, ioIdx, Ti.Arg.slot, place, E.muts, E.mutss, E.mutso, chg, updD, Ti.putF, Ti.appF, Ti.extF, Ti.insF, Ti.popF, okTg, S.muts, S.mutss, ending, outsOf, wn, Tg.put, Tg.puts, Tg.slots, Tg.slotss, noOw, wipeS, restore, isTy, itemsOf, clash, cE_lc, cS_for, lcF, forF, pg_0, pgWord, ofBag, p1]
    · have h' : (c == b) = false := by simpa using h
      simp [-Ev.bind, -Ev.of, rsOf, Def.rest, ioIdx, Ti.Arg.slot, place, E.muts, E.mutss, E.mutso, chg, updD, Ti.putF, Ti.appF, Ti.extF, Ti.insF, Ti.popF, okTg, S.muts, S.mutss, ending, outsOf, wn, Tg.put, Tg.puts, Tg.slots, Tg.slotss, noOw, wipeS, restore, isTy, itemsOf, clash, cE_lc, cS_for, lcF, forF, pg_0, pgWord, ofBag, p1, h']
  | cnt c d x =>
    have p1 : idxD (encPg (.cnt c d x)) (.int 1) = some (.int c) := rfl
    by_cases h : c = b
    · subst h
      simp [-Ev.bind, -Ev.of, rsOf, Def.rest, ioIdx, Ti.Arg.slot, place, E.muts, E.mutss, E.mutso, chg, updD, Ti.putF, Ti.appF, Ti.extF, Ti.insF, Ti.popF, okTg, S.muts, S.mutss, ending, outsOf, wn, Tg.put, Tg.puts, Tg.slots, Tg.slotss, noOw, wipeS, restore, isTy, itemsOf, clash, cE_lc, cS_for, lcF, forF, pg_0, pgWord, ofBag, p1]
    · have h' : (c == b) = false := by simpa using h
      simp [-Ev.bind, -Ev.of, rsOf, Def.rest, ioIdx, Ti.Arg.slot, place, E.muts, E.mutss, E.mutso, chg, updD, Ti.putF, Ti.appF, Ti.extF, Ti.insF, Ti.popF, okTg, S.muts, S.mutss, ending, outsOf, wn, Tg.put, Tg.puts, Tg.slots, Tg.slotss, noOw, wipeS, restore, isTy, itemsOf, clash, cE_lc, cS_for, lcF, forF, pg_0, pgWord, ofBag, p1, h']
theorem fi_back : List.findIdx? (fun y => y == "back") ["back", "counted", "lent"] = some 0 := by decide
theorem fi_cnt : List.findIdx? (fun y => y == "counted") ["back", "counted", "lent"] = some 1 := by decide
theorem fi_lent : List.findIdx? (fun y => y == "lent") ["back", "counted", "lent"] = some 2 := by decide
theorem t_key (n : Nat) (b : Int) (p : Pg) (hp : ofBag b p = true) (a0 a1 a2 a3 a4 a5 a6 a7 a9 : Slot) : lcF (evDef tb n) [] 1 e_life_of_3 (.nm 8) none (encPg p) [a0, a1, a2, a3, a4, a5, a6, a7, .no, a9] = .ok (some (kP p)) [a0, a1, a2, a3, a4, a5, a6, a7, .no, a9] := by
  cases p with
  | waits => cases hp
  | back c d => simp [-Ev.bind, -Ev.of, rsOf, Def.rest, ioIdx, Ti.Arg.slot, place, E.muts, E.mutss, E.mutso, chg, updD, Ti.putF, Ti.appF, Ti.extF, Ti.insF, Ti.popF, okTg, S.muts, S.mutss, ending, outsOf, wn, Tg.put, Tg.puts, Tg.slots, Tg.slotss, noOw, wipeS, restore, isTy, itemsOf, clash, cE_lc, cS_for, lcF, forF, pg_0, pg_2, pgWord, pgDay, kP, pgIdx, fi_back, fi_cnt, fi_lent]
  | lent c d x => simp [-Ev.bind, -Ev.of, rsOf, Def.rest, ioIdx, Ti.Arg.slot, place, E.muts, E.mutss, E.mutso, chg, updD, Ti.putF, Ti.appF, Ti.extF, Ti.insF, Ti.popF, okTg, S.muts, S.mutss, ending, outsOf, wn, Tg.put, Tg.puts, Tg.slots, Tg.slotss, noOw, wipeS, restore, isTy, itemsOf, clash, cE_lc, cS_for, lcF, forF, pg_0, pg_2, pgWord, pgDay, kP, pgIdx, fi_back, fi_cnt, fi_lent]
  | cnt c d x => simp [-Ev.bind, -Ev.of, rsOf, Def.rest, ioIdx, Ti.Arg.slot, place, E.muts, E.mutss, E.mutso, chg, updD, Ti.putF, Ti.appF, Ti.extF, Ti.insF, Ti.popF, okTg, S.muts, S.mutss, ending, outsOf, wn, Tg.put, Tg.puts, Tg.slots, Tg.slotss, noOw, wipeS, restore, isTy, itemsOf, clash, cE_lc, cS_for, lcF, forF, pg_0, pg_2, pgWord, pgDay, kP, pgIdx, fi_back, fi_cnt, fi_lent]
theorem t_life (n : Nat) (b : Int) (p : Pg) (hp : ofBag b p = true) (hc : ∀ b d c, p = .cnt b d c → GCt c) (l : Lf) {N : Nat} (g : GLf N l) (hN : N ≤ 600) (day : Option Int) (a0 a1 a2 a4 a6 a7 a8 a9 : Slot) :
    forF (evDef tb (n + 2)) [] 1000000 (.tp [.nm 7, .nm 8]) b_life_of_1 (kP p) [a0, a1, a2, .bo 0 (encDay day), a4, .ow 4 (encLf l), a6, a7, a8, a9] =
      .nx [a0, a1, a2, .bo 0 (encDay day), a4, .ow 4 (encLf (if dayOk day p = true then goL l p else l)), a6, .bo 0 (.tup [.int (pgDay p), .int (pgIdx p)]), .bo 0 (encPg p), a9] := by
  have e := s_go n l p b hp hc g hN
  cases day with
  | none => simp [-Ev.bind, -Ev.of, rsOf, Def.rest, ioIdx, Ti.Arg.slot, place, E.muts, E.mutss, E.mutso, chg, updD, Ti.putF, Ti.appF, Ti.extF, Ti.insF, Ti.popF, okTg, S.muts, S.mutss, ending, outsOf, wn, Tg.put, Tg.puts, Tg.slots, Tg.slotss, noOw, wipeS, restore, isTy, itemsOf, clash, cE_lc, cS_for, lcF, forF, kP, encDay, e, isC_lf, dayOk]
  | some d =>
    by_cases h : pgDay p ≤ d
    · simp [-Ev.bind, -Ev.of, rsOf, Def.rest, ioIdx, Ti.Arg.slot, place, E.muts, E.mutss, E.mutso, chg, updD, Ti.putF, Ti.appF, Ti.extF, Ti.insF, Ti.popF, okTg, S.muts, S.mutss, ending, outsOf, wn, Tg.put, Tg.puts, Tg.slots, Tg.slotss, noOw, wipeS, restore, isTy, itemsOf, clash, cE_lc, cS_for, lcF, forF, kP, encDay, e, isC_lf, dayOk, h]
    · simp [-Ev.bind, -Ev.of, rsOf, Def.rest, ioIdx, Ti.Arg.slot, place, E.muts, E.mutss, E.mutso, chg, updD, Ti.putF, Ti.appF, Ti.extF, Ti.insF, Ti.popF, okTg, S.muts, S.mutss, ending, outsOf, wn, Tg.put, Tg.puts, Tg.slots, Tg.slotss, noOw, wipeS, restore, isTy, itemsOf, clash, cE_lc, cS_for, lcF, forF, kP, encDay, dayOk, h]
theorem s_life_of (n : Nat) (ms : List Mk) (sh : List Bag) (gs : GShelf ms sh) (b : Bag) (hb : b ∈ sh) (ids : List Int) (ps : List Pg) (gp : ∀ p ∈ ps, GPg ms ids p) (hl : ps.length ≤ 500) (day : Option Int) (j : Nat) (hj : j = 0 ∨ j = 1) :
    evDef tb (n + 3) i_life_of [.pv 0 (encSh sh), .pv j (.lst (ps.map encPg)), .pv 0 (.int b.1), .pv 0 (encDay day)] = .ok 4 (encLf (lifeOf b ps day)) [] ∧ GLf 500 (lifeOf b ps day) := by
  have e1 : ∀ a4 a5 a6 a7 a8 : Slot, lcGo (lcF (evDef tb (n + 2)) [] 1 e_life_of_1 (.nm 9) c_life_of_1) (sh.map encBag) [.bo 0 (encSh sh), .bo j (.lst (ps.map encPg)), .bo 0 (.int b.1), .bo 0 (encDay day), a4, a5, a6, a7, a8, .no] = .ok [encBag b] [.bo 0 (encSh sh), .bo j (.lst (ps.map encPg)), .bo 0 (.int b.1), .bo 0 (encDay day), a4, a5, a6, a7, a8, .no] := fun a4 a5 a6 a7 a8 => by
    have q : lcGo (lcF (evDef tb (n + 2)) [] 1 e_life_of_1 (.nm 9) c_life_of_1) (sh.map encBag) [.bo 0 (encSh sh), .bo j (.lst (ps.map encPg)), .bo 0 (.int b.1), .bo 0 (encDay day), a4, a5, a6, a7, a8, .no] = .ok (sh.filterMap fun x => if decide (x.1 = b.1) = true then some (encBag x) else none) [.bo 0 (encSh sh), .bo j (.lst (ps.map encPg)), .bo 0 (.int b.1), .bo 0 (encDay day), a4, a5, a6, a7, a8, .no] :=
      lcGo_some fun x _ => by
        by_cases h : x.1 = b.1
        · simp [-Ev.bind, -Ev.of, rsOf, Def.rest, ioIdx, Ti.Arg.slot, place, E.muts, E.mutss, E.mutso, chg, updD, Ti.putF, Ti.appF, Ti.extF, Ti.insF, Ti.popF, okTg, S.muts, S.mutss, ending, outsOf, wn, Tg.put, Tg.puts, Tg.slots, Tg.slotss, noOw, wipeS, restore, isTy, itemsOf, clash, cE_lc, cS_for, lcF, forF, h]
        · have h' : (x.1 == b.1) = false := by simpa using h
          simp [-Ev.bind, -Ev.of, rsOf, Def.rest, ioIdx, Ti.Arg.slot, place, E.muts, E.mutss, E.mutso, chg, updD, Ti.putF, Ti.appF, Ti.extF, Ti.insF, Ti.popF, okTg, S.muts, S.mutss, ending, outsOf, wn, Tg.put, Tg.puts, Tg.slots, Tg.slotss, noOw, wipeS, restore, isTy, itemsOf, clash, cE_lc, cS_for, lcF, forF, h, h']
    rw [q, ← filter_map, sh_one gs.lt hb]
    rfl
  have e2 : ∀ a4 a5 a6 a7 a9 : Slot, lcGo (lcF (evDef tb (n + 2)) [] 1 e_life_of_2 (.nm 8) c_life_of_2) (ps.map encPg) [.bo 0 (encSh sh), .bo j (.lst (ps.map encPg)), .bo 0 (.int b.1), .bo 0 (encDay day), a4, a5, a6, a7, .no, a9] = .ok ((ps.filter (ofBag b.1)).map encPg) [.bo 0 (encSh sh), .bo j (.lst (ps.map encPg)), .bo 0 (.int b.1), .bo 0 (encDay day), a4, a5, a6, a7, .no, a9] := fun a4 a5 a6 a7 a9 => by
    rw [filter_map]
    exact lcGo_some fun p _ => t_some (n + 2) b.1 p _ _ _ _ _ _ _ _
  obtain ⟨qs, hq⟩ : ∃ qs, ps.filter (ofBag b.1) = qs := ⟨_, rfl⟩
  have hqm : ∀ p ∈ qs, p ∈ ps ∧ ofBag b.1 p = true := fun p m => by rw [← hq] at m; exact List.mem_filter.mp m
  have hql : qs.length ≤ 500 := by rw [← hq]; exact Nat.le_trans (List.length_filter_le _ _) hl
  rw [hq] at e2
  have e3 : ∀ a4 a5 a6 a7 a9 : Slot, lcGo (lcF (evDef tb (n + 2)) [] 1 e_life_of_3 (.nm 8) none) (qs.map encPg) [.bo 0 (encSh sh), .bo j (.lst (ps.map encPg)), .bo 0 (.int b.1), .bo 0 (encDay day), a4, a5, a6, a7, .no, a9] = .ok (qs.map kP) [.bo 0 (encSh sh), .bo j (.lst (ps.map encPg)), .bo 0 (.int b.1), .bo 0 (encDay day), a4, a5, a6, a7, .no, a9] := fun a4 a5 a6 a7 a9 =>
    lcGo_each fun p m => t_key (n + 2) b.1 p (hqm p m).2 _ _ _ _ _ _ _ _ _
  have hsm : ∀ p ∈ srtP qs, p ∈ ps ∧ ofBag b.1 p = true := fun p m => hqm p ((srtP_perm qs).mem_iff.mp m)
  have hsl : (srtP qs).length ≤ 500 := by rw [(srtP_perm qs).length_eq]; exact hql
  obtain ⟨s1, e4, w7, w8, gl, rfl⟩ := forGo_pre (h := kP) (f := forF (evDef tb (n + 2)) [] 1000000 (.tp [.nm 7, .nm 8]) b_life_of_1)
    (P := fun a s => ∃ w7 w8 : Slot, GLf a.length (lifeOn b.2.2 (a.filter (dayOk day))) ∧ s = [.bo 0 (encSh sh), .bo j (.lst (ps.map encPg)), .bo 0 (.int b.1), .bo 0 (encDay day), .bo 0 (.lst [encBag b]), .ow 4 (encLf (lifeOn b.2.2 (a.filter (dayOk day)))), .bo 0 (.lst (qs.map encPg)), w7, w8, .no])
    (srtP qs) [] [.bo 0 (encSh sh), .bo j (.lst (ps.map encPg)), .bo 0 (.int b.1), .bo 0 (encDay day), .bo 0 (.lst [encBag b]), .ow 4 (encLf (newLf b.2.2)), .bo 0 (.lst (qs.map encPg)), .no, .no, .no] ⟨.no, .no, ⟨(gs.bags b hb).ct, by simp [lifeOn, newLf], by simp [lifeOn, newLf], by simp [lifeOn, newLf], by simp [lifeOn, newLf]⟩, rfl⟩ (by
      rintro a p r hab s ⟨w7, w8, gl, rfl⟩
      have hp : p ∈ srtP qs := by
        have : p ∈ a ++ p :: r := by simp
        rw [← hab] at this
        simpa using this
      have hal : a.length ≤ 500 := by
        have := congrArg List.length hab
        rw [List.nil_append, List.length_append] at this
        omega
      have hc := ct_of (gp p (hsm p hp).1)
      have e := t_life n b.1 p (hsm p hp).2 hc (lifeOn b.2.2 (a.filter (dayOk day))) gl (by omega) day (.bo 0 (encSh sh)) (.bo j (.lst (ps.map encPg))) (.bo 0 (.int b.1)) (.bo 0 (.lst [encBag b])) (.bo 0 (.lst (qs.map encPg))) w7 w8 .no
      have hfa : lifeOn b.2.2 ((a ++ [p]).filter (dayOk day)) = if dayOk day p = true then goL (lifeOn b.2.2 (a.filter (dayOk day))) p else lifeOn b.2.2 (a.filter (dayOk day)) := by
        rw [List.filter_append]
        unfold lifeOn
        rw [List.foldl_append]
        by_cases h : dayOk day p = true
        · simp [h]
        · simp [h]
      refine ⟨_, .inl e, _, _, ?_, by rw [hfa]⟩
      rw [hfa, List.length_append]
      show GLf (a.length + 1) _
      split
      · exact gLf_go gl hc
      · exact ⟨gl.con, by have := gl.s; omega, by have := gl.w; omega, by have := gl.m; omega, by have := gl.d; omega⟩)
  have hll : lifeOf b ps day = lifeOn b.2.2 ((srtP qs).filter (dayOk day)) := by unfold lifeOf; rw [hq]
  rw [List.nil_append] at e4 gl
  rw [hll]
  refine ⟨?_, ⟨gl.con, by have := gl.s; omega, by have := gl.w; omega, by have := gl.m; omega, by have := gl.d; omega⟩⟩
  have hne : cmpD .eq (.lst [encBag b]) (.lst []) = some false := eq_nil (by simp [D.flats, flat_bag])
  have hi := s_life_init (n + 1) b.2.2
  have h0 : idxD (.lst [encBag b]) (.int 0) = some (encBag b) := rfl
  have l1 : sh.length ≤ 16777216 := by have := gs.len; omega
  have l2 : ps.length ≤ 16777216 := by omega
  have l3 : qs.length ≤ 16777216 := by omega
  have so := sortOk_kP qs
  have sk := sort_kP qs
  rw [ev_succ (n + 2) i_life_of d_life_of rfl]
  rcases hj with rfl | rfl <;> simp [-Ev.bind, -Ev.of, rsOf, Def.rest, ioIdx, Ti.Arg.slot, place, E.muts, E.mutss, E.mutso, chg, updD, Ti.putF, Ti.appF, Ti.extF, Ti.insF, Ti.popF, okTg, S.muts, S.mutss, ending, outsOf, wn, Tg.put, Tg.puts, Tg.slots, Tg.slotss, noOw, wipeS, restore, isTy, itemsOf, clash, cE_lc, cS_for, -idx_l, d_life_of, e1, hne, h0, hi, e2, e3, so, sk, e4, l1, l2, l3]
end
section
def encG (l : Lf) : D := .dct [(.str "house", encO l.house), (.str "faults", .lst (l.wrong.map encFt)), (.str "lacks", .lst (l.missing.map encLk)), (.str "lent", .lst (l.lend.map encLd))]
def encGone (l : Lf) : D := .dct [(.str "house", encO l.house), (.str "faults", .lst (l.wrong.map encFt)), (.str "lacks", .lst (l.missing.map encLk)), (.str "lent", .lst (l.lend.map encLd)), (.str "contents", encCt l.con)]
theorem idxG_house (l : Lf) : idxD (encG l) (.str "house") = some (encO l.house) := rfl
theorem gone_faults (l : Lf) : idxD (encGone l) (.str "faults") = some (.lst (l.wrong.map encFt)) := rfl
theorem gone_lacks (l : Lf) : idxD (encGone l) (.str "lacks") = some (.lst (l.missing.map encLk)) := rfl
theorem gone_lent (l : Lf) : idxD (encGone l) (.str "lent") = some (.lst (l.lend.map encLd)) := rfl
theorem gone_house (l : Lf) : idxD (encGone l) (.str "house") = some (encO l.house) := rfl
theorem gone_con (l : Lf) : idxD (encGone l) (.str "contents") = some (encCt l.con) := rfl
theorem eqvS (a b : String) : D.eqv (.str a) (.str b) = (a == b) := by rw [D.eqv]
theorem appG_lacks (l : Lf) (x : Lk) (h : l.missing.length < 1000000) : Ti.updD 4 (encG l) [.str "lacks"] (Ti.appF (.ow 2 (encLk x))) = some (encG { l with missing := l.missing ++ [x] }) := by
  have hb : l.missing.length < big := by unfold big; omega
  simp [encG, Ti.updD, Ti.appF, hb, eqvS, List.findIdx?_cons]
theorem appG_faults (l : Lf) (x : Ft) (h : l.wrong.length < 1000000) : Ti.updD 4 (encG l) [.str "faults"] (Ti.appF (.ow 2 (encFt x))) = some (encG { l with wrong := l.wrong ++ [x] }) := by
  have hb : l.wrong.length < big := by unfold big; omega
  simp [encG, Ti.updD, Ti.appF, hb, eqvS, List.findIdx?_cons]
theorem appG_lent (l : Lf) (x : Ld) (h : l.lend.length < 1000000) : Ti.updD 4 (encG l) [.str "lent"] (Ti.appF (.ow 2 (encLd x))) = some (encG { l with lend := l.lend ++ [x] }) := by
  have hb : l.lend.length < big := by unfold big; omega
  simp [encG, Ti.updD, Ti.appF, hb, eqvS, List.findIdx?_cons]
theorem updG_nil (k : Nat) (l : Lf) (f : Nat → D → Option D) : Ti.updD (k + 1) (encG l) [] f = f k (encG l) := rfl
theorem putG_home (l : Lf) : Ti.putF (.str "house") (.ow 0 .non) 3 (encG l) = some (encG { l with house := none }) := by
  simp [encG, Ti.putF, putD, eqvS, solid_non, encO]
theorem putG_house (l : Lf) (x : String) : Ti.putF (.str "house") (.ow 0 (.str x)) 3 (encG l) = some (encG { l with house := some x }) := by
  simp [encG, Ti.putF, putD, eqvS, solid_str, encO]
theorem putG_con (l : Lf) : Ti.putF (.str "contents") (.ow 0 (encCt l.con)) 3 (encG l) = some (encGone l) := by
  simp [encG, encGone, Ti.putF, putD, eqvS, solid_ct]
theorem ne_bl (a b : Bool) : cmpD .ne (.bl a) (.bl b) = some (a != b) := by
  rw [cmp_ne, if_pos ⟨rfl, rfl, by simp [D.dep]⟩, D.eqv]
  cases a <;> cases b <;> rfl
theorem ix_word (p : Pg) {b : Int} (h : ofBag b p = true) : bmD .index (.lst [.str "back", .str "counted", .str "lent"]) [.str (pgWord p)] = some (0, .int (pgIdx p)) := by
  cases p with
  | waits => cases h
  | back _ _ => simp [bmD, idxOf, D.flat, D.flats, D.dep, D.deps, pgWord, pgIdx, eqvS, List.findIdx?_cons]
  | cnt _ _ _ => simp [bmD, idxOf, D.flat, D.flats, D.dep, D.deps, pgWord, pgIdx, eqvS, List.findIdx?_cons]
  | lent _ _ _ => simp [bmD, idxOf, D.flat, D.flats, D.dep, D.deps, pgWord, pgIdx, eqvS, List.findIdx?_cons]
theorem tg_count (n : Nat) (l : Lf) (b d : Int) (c : Ct) (r : String × Int) (a0 a1 a3 a4 a5 a8 a9 a11 a12 a13 a14 v16 v17 : Slot) (hs : l.since.length < 4000) (hm : l.missing.length < 1000000) :
    forF (evDef tb n) [] 1000000 (.tp [.nm 16, .nm 17]) b__law_gone_1 (encRow r) [a0, a1, .bo 0 (.int b), a3, a4, a5, .ow 4 (encG l), .ow 1 (.lst (l.since.map D.str)), a8, a9, .bo 0 (.int d), a11, a12, a13, a14, .bo 0 (.dct (dE D.str D.int c)), v16, v17] =
      .nx [a0, a1, .bo 0 (.int b), a3, a4, a5, .ow 4 (encG { l with missing := l.missing ++ (lackRow l.since b d c r).toList }), .ow 1 (.lst (l.since.map D.str)), a8, a9, .bo 0 (.int d), a11, a12, a13, a14, .bo 0 (.dct (dE D.str D.int c)), .bo 0 (.str r.1), .bo 0 (.int r.2)] := by
  by_cases h : (aget c r.1).getD 0 < r.2
  · have e := appG_lacks l (b, d, r.1, r.2 - (aget c r.1).getD 0, srtS l.since) hm
    simp only [encLk] at e
    simp [-Ev.bind, -Ev.of, rsOf, Def.rest, ioIdx, Ti.Arg.slot, place, E.muts, E.mutss, E.mutso, chg, updD, Ti.putF, Ti.appF, Ti.extF, Ti.insF, Ti.popF, okTg, S.muts, S.mutss, ending, outsOf, wn, Tg.put, Tg.puts, Tg.slots, Tg.slotss, noOw, wipeS, restore, isTy, itemsOf, clash, cE_lc, cS_for, lcF, forF, -Ti.updD, -Ti.appF, encRow, get_ct, h, sortset_strs _ hs, e, lackRow]
  · simp [-Ev.bind, -Ev.of, rsOf, Def.rest, ioIdx, Ti.Arg.slot, place, E.muts, E.mutss, E.mutso, chg, updD, Ti.putF, Ti.appF, Ti.extF, Ti.insF, Ti.popF, okTg, S.muts, S.mutss, ending, outsOf, wn, Tg.put, Tg.puts, Tg.slots, Tg.slotss, noOw, wipeS, restore, isTy, itemsOf, clash, cE_lc, cS_for, lcF, forF, encRow, get_ct, h, lackRow]
theorem t_gone (n : Nat) (l : Lf) (p : Pg) (b : Int) (hp : ofBag b p = true) (hc : ∀ b d c, p = .cnt b d c → GCt c) {N : Nat} (g : GLf N l) (hN : N ≤ 600) (a0 a1 a3 a4 a8 a9 v10 v11 v12 v13 a14 v15 v16 v17 : Slot) :
    ∃ u13 u15 u16 u17 : Slot, forF (evDef tb n) [] 1000000 (.tp [.nm 10, .nm 11, .nm 12]) b__law_gone_2 (kD p) [a0, a1, .bo 0 (.int b), a3, a4, .bo 0 (encCt l.con), .ow 4 (encG l), .ow 1 (.lst (l.since.map D.str)), a8, a9, v10, v11, v12, v13, a14, v15, v16, v17] =
      .nx [a0, a1, .bo 0 (.int b), a3, a4, .bo 0 (encCt (goL l p).con), .ow 4 (encG (goL l p)), .ow 1 (.lst ((goL l p).since.map D.str)), a8, a9, .bo 0 (.int (pgDay p)), .bo 0 (.int (pgIdx p)), .bo 0 (encPg p), u13, a14, u15, u16, u17] := by
  have h1 := g.s
  have h2 := g.w
  have h3 := g.m
  have h4 := g.d
  have hb : l.since.length < big := by unfold big; omega
  have eb := ofBag_bag hp
  cases p with
  | waits => cases hp
  | back c d =>
    have eb : c = b := eb
    subst eb
    cases hh : l.house with
    | none =>
      have e := appG_faults l (c, .back c d, "in") (by omega)
      simp only [encFt] at e
      refine ⟨.bo 0 (.bl false), v15, v16, v17, ?_⟩
      simp [-Ev.bind, -Ev.of, rsOf, Def.rest, ioIdx, Ti.Arg.slot, place, E.muts, E.mutss, E.mutso, chg, updD, Ti.putF, Ti.appF, Ti.extF, Ti.insF, Ti.popF, okTg, S.muts, S.mutss, ending, outsOf, wn, Tg.put, Tg.puts, Tg.slots, Tg.slotss, noOw, wipeS, restore, isTy, itemsOf, clash, cE_lc, cS_for, lcF, forF, -Ti.updD, -Ti.appF, kD, pgDay, pgIdx, idxG_house, hh, encO, ne_bl, e, goL, faultOf, pgBag]
    | some x =>
      have e := putG_home l
      refine ⟨.bo 0 (.bl true), v15, v16, v17, ?_⟩
      simp [-Ev.bind, -Ev.of, rsOf, Def.rest, ioIdx, Ti.Arg.slot, place, E.muts, E.mutss, E.mutso, chg, updD, Ti.putF, Ti.appF, Ti.extF, Ti.insF, Ti.popF, okTg, S.muts, S.mutss, ending, outsOf, wn, Tg.put, Tg.puts, Tg.slots, Tg.slotss, noOw, wipeS, restore, isTy, itemsOf, clash, cE_lc, cS_for, lcF, forF, -Ti.updD, -Ti.putF, kD, pgDay, pgIdx, idxG_house, hh, encO, ne_bl, updG_nil, e, goL, faultOf, pgBag]
  | lent c d y =>
    have eb : c = b := eb
    subst eb
    have p3 : idxD (encPg (.lent c d y)) (.int 3) = some (.str y) := rfl
    cases hh : l.house with
    | none =>
      have e1 := putG_house l y
      have e2 := appG_lent { l with house := some y } (d, c, y) (by dsimp only; omega)
      simp only [encLd] at e2
      refine ⟨.bo 0 (.bl false), v15, v16, v17, ?_⟩
      have e3 : Ti.updD 1 (.lst (l.since.map D.str)) [] (Ti.appF (.ow 0 (.str y))) = some (.lst ((l.since ++ [y]).map D.str)) := by simp [Ti.updD, Ti.appF, hb]
      simp [-Ev.bind, -Ev.of, rsOf, Def.rest, ioIdx, Ti.Arg.slot, place, E.muts, E.mutss, E.mutso, chg, updD, Ti.putF, Ti.appF, Ti.extF, Ti.insF, Ti.popF, okTg, S.muts, S.mutss, ending, outsOf, wn, Tg.put, Tg.puts, Tg.slots, Tg.slotss, noOw, wipeS, restore, isTy, itemsOf, clash, cE_lc, cS_for, lcF, forF, -Ti.updD, -Ti.putF, -Ti.appF, kD, pgDay, pgIdx, idxG_house, hh, encO, ne_bl, updG_nil, e1, e2, e3, goL, faultOf, pgBag, p3]
      rfl
    | some x =>
      have e := appG_faults l (c, .lent c d y, "out") (by omega)
      simp only [encFt] at e
      refine ⟨.bo 0 (.bl true), v15, v16, v17, ?_⟩
      simp [-Ev.bind, -Ev.of, rsOf, Def.rest, ioIdx, Ti.Arg.slot, place, E.muts, E.mutss, E.mutso, chg, updD, Ti.putF, Ti.appF, Ti.extF, Ti.insF, Ti.popF, okTg, S.muts, S.mutss, ending, outsOf, wn, Tg.put, Tg.puts, Tg.slots, Tg.slotss, noOw, wipeS, restore, isTy, itemsOf, clash, cE_lc, cS_for, lcF, forF, -Ti.updD, -Ti.appF, kD, pgDay, pgIdx, idxG_house, hh, encO, ne_bl, e, goL, faultOf, pgBag]
  | cnt c d y =>
    have eb : c = b := eb
    subst eb
    have p3 : idxD (encPg (.cnt c d y)) (.int 3) = some (encCt y) := rfl
    cases hh : l.house with
    | none =>
      have h5 := g.con.len
      obtain ⟨s1, e1, u16, u17, rfl⟩ := forGo_pre (h := encRow) (f := forF (evDef tb n) [] 1000000 (.tp [.nm 16, .nm 17]) b__law_gone_1)
        (P := fun a s => ∃ u16 u17 : Slot, s = [a0, a1, .bo 0 (.int c), a3, a4, .bo 0 (encCt l.con), .ow 4 (encG { l with missing := l.missing ++ a.filterMap (lackRow l.since c d y) }), .ow 1 (.lst (l.since.map D.str)), a8, a9, .bo 0 (.int d), .bo 0 (.int 1), .bo 0 (encPg (.cnt c d y)), .bo 0 (.bl false), a14, .bo 0 (.dct (dE D.str D.int y)), u16, u17])
        l.con [] [a0, a1, .bo 0 (.int c), a3, a4, .bo 0 (encCt l.con), .ow 4 (encG l), .ow 1 (.lst (l.since.map D.str)), a8, a9, .bo 0 (.int d), .bo 0 (.int 1), .bo 0 (encPg (.cnt c d y)), .bo 0 (.bl false), a14, .bo 0 (.dct (dE D.str D.int y)), v16, v17] ⟨v16, v17, by simp⟩ (by
          rintro a x r hab s ⟨u16, u17, rfl⟩
          have hal : a.length ≤ 9 := by
            have := congrArg List.length hab
            rw [List.nil_append, List.length_append] at this
            omega
          have e2 : (a.filterMap (lackRow l.since c d y)).length ≤ 9 := Nat.le_trans (List.length_filterMap_le _ _) hal
          have e := tg_count n { l with missing := l.missing ++ a.filterMap (lackRow l.since c d y) } c d y x a0 a1 a3 a4 (.bo 0 (encCt l.con)) a8 a9 (.bo 0 (.int 1)) (.bo 0 (encPg (.cnt c d y))) (.bo 0 (.bl false)) a14 u16 u17 (by dsimp only; omega) (by simp only [List.length_append]; omega)
          have hfm : (a ++ [x]).filterMap (lackRow l.since c d y) = a.filterMap (lackRow l.since c d y) ++ (lackRow l.since c d y x).toList := by
            rw [List.filterMap_append]
            cases hh : lackRow l.since c d y x <;> simp [hh]
          refine ⟨_, .inl e, .bo 0 (.str x.1), .bo 0 (.int x.2), ?_⟩
          rw [hfm, ← List.append_assoc])
      have ei : itemsOf (encCt l.con) = some (l.con.map encRow) := rfl
      have hd := dict_ct (hc _ _ _ rfl)
      rw [List.nil_append] at e1
      refine ⟨.bo 0 (.bl false), .bo 0 (.dct (dE D.str D.int y)), u16, u17, ?_⟩
      simp [-Ev.bind, -Ev.of, rsOf, Def.rest, ioIdx, Ti.Arg.slot, place, E.muts, E.mutss, E.mutso, chg, updD, Ti.putF, Ti.appF, Ti.extF, Ti.insF, Ti.popF, okTg, S.muts, S.mutss, ending, outsOf, wn, Tg.put, Tg.puts, Tg.slots, Tg.slotss, noOw, wipeS, restore, isTy, itemsOf, clash, cE_lc, cS_for, lcF, forF, -itemsOf, -lcF, kD, pgDay, pgIdx, idxG_house, hh, encO, ne_bl, hd, ei, e1, goL, faultOf, pgBag, p3]
      rfl
    | some x =>
      have e := appG_faults l (c, .cnt c d y, "away") (by omega)
      simp only [encFt] at e
      refine ⟨.bo 0 (.bl true), v15, v16, v17, ?_⟩
      simp [-Ev.bind, -Ev.of, rsOf, Def.rest, ioIdx, Ti.Arg.slot, place, E.muts, E.mutss, E.mutso, chg, updD, Ti.putF, Ti.appF, Ti.extF, Ti.insF, Ti.popF, okTg, S.muts, S.mutss, ending, outsOf, wn, Tg.put, Tg.puts, Tg.slots, Tg.slotss, noOw, wipeS, restore, isTy, itemsOf, clash, cE_lc, cS_for, lcF, forF, -Ti.updD, -Ti.appF, kD, pgDay, pgIdx, idxG_house, hh, encO, ne_bl, e, goL, faultOf, pgBag]
theorem tg_own (n : Nat) (b : Int) (p : Pg) (a0 a1 a3 a4 a5 a6 a7 a8 a9 a10 a11 a13 a14 a15 a16 a17 : Slot) : lcF (evDef tb n) [] 1 e__law_gone_2 (.nm 12) c__law_gone_2 (encPg p) [a0, a1, .bo 0 (.int b), a3, a4, a5, a6, a7, a8, a9, a10, a11, .no, a13, a14, a15, a16, a17] = .ok (if ofBag b p = true then some (encPg p) else none) [a0, a1, .bo 0 (.int b), a3, a4, a5, a6, a7, a8, a9, a10, a11, .no, a13, a14, a15, a16, a17] := by
  cases p with
  | waits x d h => simp [-Ev.bind, -Ev.of, rsOf, Def.rest, ioIdx, Ti.Arg.slot, place, E.muts, E.mutss, E.mutso, chg, updD, Ti.putF, Ti.appF, Ti.extF, Ti.insF, Ti.popF, okTg, S.muts, S.mutss, ending, outsOf, wn, Tg.put, Tg.puts, Tg.slots, Tg.slotss, noOw, wipeS, restore, isTy, itemsOf, clash, cE_lc, cS_for, lcF, forF, pg_0, pgWord, ofBag]
  | back c d =>
    have p1 : idxD (encPg (.back c d)) (.int 1) = some (.int c) := rfl
    by_cases h : c = b
    · subst h
      simp [-Ev.bind, -Ev.of, rsOf, Def.rest, ioIdx, Ti.Arg.slot, place, E.muts, E.mutss, E.mutso, chg, updD, Ti.putF, Ti.appF, Ti.extF, Ti.insF, Ti.popF, okTg, S.muts, S.mutss, ending, outsOf, wn, Tg.put, Tg.puts, Tg.slots, Tg.slotss, noOw, wipeS, restore, isTy, itemsOf, clash, cE_lc, cS_for, lcF, forF, pg_0, pgWord, ofBag, p1]
    · have h' : (c == b) = false := by simpa using h
      simp [-Ev.bind, -Ev.of, rsOf, Def.rest, ioIdx, Ti.Arg.slot, place, E.muts, E.mutss, E.mutso, chg, updD, Ti.putF, Ti.appF, Ti.extF, Ti.insF, Ti.popF, okTg, S.muts, S.mutss, ending, outsOf, wn, Tg.put, Tg.puts, Tg.slots, Tg.slotss, noOw, wipeS, restore, isTy, itemsOf, clash, cE_lc, cS_for, lcF, forF, pg_0, pgWord, ofBag, p1, h']
  | lent c d x =>
    have p1 : idxD (encPg (.lent c d x)) (.int 1) = some (.int c) := rfl
    by_cases h : c = b
    · subst h
      simp [-Ev.bind, -Ev.of, rsOf, Def.rest, ioIdx, Ti.Arg.slot, place, E.muts, E.mutss, E.mutso, chg, updD, Ti.putF, Ti.appF, Ti.extF, Ti.insF, Ti.popF, okTg, S.muts, S.mutss, ending, outsOf, wn, Tg.put, Tg.puts, Tg.slots, Tg.slotss, noOw, wipeS, restore, isTy, itemsOf, clash, cE_lc, cS_for, lcF, forF, pg_0, pgWord, ofBag, p1]
    · have h' : (c == b) = false := by simpa using h
      simp [-Ev.bind, -Ev.of, rsOf, Def.rest, ioIdx, Ti.Arg.slot, place, E.muts, E.mutss, E.mutso, chg, updD, Ti.putF, Ti.appF, Ti.extF, Ti.insF, Ti.popF, okTg, S.muts, S.mutss, ending, outsOf, wn, Tg.put, Tg.puts, Tg.slots, Tg.slotss, noOw, wipeS, restore, isTy, itemsOf, clash, cE_lc, cS_for, lcF, forF, pg_0, pgWord, ofBag, p1, h']
  | cnt c d x =>
    have p1 : idxD (encPg (.cnt c d x)) (.int 1) = some (.int c) := rfl
    by_cases h : c = b
    · subst h
      simp [-Ev.bind, -Ev.of, rsOf, Def.rest, ioIdx, Ti.Arg.slot, place, E.muts, E.mutss, E.mutso, chg, updD, Ti.putF, Ti.appF, Ti.extF, Ti.insF, Ti.popF, okTg, S.muts, S.mutss, ending, outsOf, wn, Tg.put, Tg.puts, Tg.slots, Tg.slotss, noOw, wipeS, restore, isTy, itemsOf, clash, cE_lc, cS_for, lcF, forF, pg_0, pgWord, ofBag, p1]
    · have h' : (c == b) = false := by simpa using h
      simp [-Ev.bind, -Ev.of, rsOf, Def.rest, ioIdx, Ti.Arg.slot, place, E.muts, E.mutss, E.mutso, chg, updD, Ti.putF, Ti.appF, Ti.extF, Ti.insF, Ti.popF, okTg, S.muts, S.mutss, ending, outsOf, wn, Tg.put, Tg.puts, Tg.slots, Tg.slotss, noOw, wipeS, restore, isTy, itemsOf, clash, cE_lc, cS_for, lcF, forF, pg_0, pgWord, ofBag, p1, h']
theorem tg_key (n : Nat) (b : Int) (p : Pg) (hp : ofBag b p = true) (day : Option Int) (a0 a1 a2 a5 a6 a7 a8 a9 a10 a11 a13 a14 a15 a16 a17 : Slot) : lcF (evDef tb n) [] 1 e__law_gone_3 (.nm 12) c__law_gone_3 (encPg p) [a0, a1, a2, .bo 0 (encDay day), .bo 0 (.lst [.str "back", .str "counted", .str "lent"]), a5, a6, a7, a8, a9, a10, a11, .no, a13, a14, a15, a16, a17] = .ok (if dayOk day p = true then some (kD p) else none) [a0, a1, a2, .bo 0 (encDay day), .bo 0 (.lst [.str "back", .str "counted", .str "lent"]), a5, a6, a7, a8, a9, a10, a11, .no, a13, a14, a15, a16, a17] := by
  have e := ix_word p hp
  cases day with
  | none => simp [-Ev.bind, -Ev.of, rsOf, Def.rest, ioIdx, Ti.Arg.slot, place, E.muts, E.mutss, E.mutso, chg, updD, Ti.putF, Ti.appF, Ti.extF, Ti.insF, Ti.popF, okTg, S.muts, S.mutss, ending, outsOf, wn, Tg.put, Tg.puts, Tg.slots, Tg.slotss, noOw, wipeS, restore, isTy, itemsOf, clash, cE_lc, cS_for, lcF, forF, pg_0, pg_2, e, kD, encDay, dayOk]
  | some d =>
    by_cases h : pgDay p ≤ d
    · simp [-Ev.bind, -Ev.of, rsOf, Def.rest, ioIdx, Ti.Arg.slot, place, E.muts, E.mutss, E.mutso, chg, updD, Ti.putF, Ti.appF, Ti.extF, Ti.insF, Ti.popF, okTg, S.muts, S.mutss, ending, outsOf, wn, Tg.put, Tg.puts, Tg.slots, Tg.slotss, noOw, wipeS, restore, isTy, itemsOf, clash, cE_lc, cS_for, lcF, forF, pg_0, pg_2, e, kD, encDay, dayOk, h]
    · simp [-Ev.bind, -Ev.of, rsOf, Def.rest, ioIdx, Ti.Arg.slot, place, E.muts, E.mutss, E.mutso, chg, updD, Ti.putF, Ti.appF, Ti.extF, Ti.insF, Ti.popF, okTg, S.muts, S.mutss, ending, outsOf, wn, Tg.put, Tg.puts, Tg.slots, Tg.slotss, noOw, wipeS, restore, isTy, itemsOf, clash, cE_lc, cS_for, lcF, forF, pg_0, pg_2, e, kD, encDay, dayOk, h]
theorem s_gone (n : Nat) (ms : List Mk) (sh : List Bag) (gs : GShelf ms sh) (b : Bag) (hb : b ∈ sh) (ids : List Int) (ps : List Pg) (gp : ∀ p ∈ ps, GPg ms ids p) (hl : ps.length ≤ 500) (day : Option Int) :
    evDef tb (n + 1) i__law_gone [.pv 0 (encSh sh), .pv 0 (.lst (ps.map encPg)), .pv 0 (.int b.1), .pv 0 (encDay day)] = .ok 4 (encGone (lifeOf b ps day)) [] := by
  obtain ⟨W, hW⟩ : ∃ W, Slot.bo 0 (.lst [.str "back", .str "counted", .str "lent"]) = W := ⟨_, rfl⟩
  have e1 : ∀ a5 a6 a7 a8 a9 a10 a11 a12 a13 a15 a16 a17 : Slot, lcGo (lcF (evDef tb n) [] 1 e__law_gone_1 (.nm 14) c__law_gone_1) (sh.map encBag) [.bo 0 (encSh sh), .bo 0 (.lst (ps.map encPg)), .bo 0 (.int b.1), .bo 0 (encDay day), W, a5, a6, a7, a8, a9, a10, a11, a12, a13, .no, a15, a16, a17] = .ok [encCt b.2.2] [.bo 0 (encSh sh), .bo 0 (.lst (ps.map encPg)), .bo 0 (.int b.1), .bo 0 (encDay day), W, a5, a6, a7, a8, a9, a10, a11, a12, a13, .no, a15, a16, a17] := fun a5 a6 a7 a8 a9 a10 a11 a12 a13 a15 a16 a17 => by
    have q : lcGo (lcF (evDef tb n) [] 1 e__law_gone_1 (.nm 14) c__law_gone_1) (sh.map encBag) [.bo 0 (encSh sh), .bo 0 (.lst (ps.map encPg)), .bo 0 (.int b.1), .bo 0 (encDay day), W, a5, a6, a7, a8, a9, a10, a11, a12, a13, .no, a15, a16, a17] = .ok (sh.filterMap fun x => if decide (x.1 = b.1) = true then some (encCt x.2.2) else none) [.bo 0 (encSh sh), .bo 0 (.lst (ps.map encPg)), .bo 0 (.int b.1), .bo 0 (encDay day), W, a5, a6, a7, a8, a9, a10, a11, a12, a13, .no, a15, a16, a17] :=
      lcGo_some fun x _ => by
        by_cases h : x.1 = b.1
        · simp [-Ev.bind, -Ev.of, rsOf, Def.rest, ioIdx, Ti.Arg.slot, place, E.muts, E.mutss, E.mutso, chg, updD, Ti.putF, Ti.appF, Ti.extF, Ti.insF, Ti.popF, okTg, S.muts, S.mutss, ending, outsOf, wn, Tg.put, Tg.puts, Tg.slots, Tg.slotss, noOw, wipeS, restore, isTy, itemsOf, clash, cE_lc, cS_for, lcF, forF, h]
        · have h' : (x.1 == b.1) = false := by simpa using h
          simp [-Ev.bind, -Ev.of, rsOf, Def.rest, ioIdx, Ti.Arg.slot, place, E.muts, E.mutss, E.mutso, chg, updD, Ti.putF, Ti.appF, Ti.extF, Ti.insF, Ti.popF, okTg, S.muts, S.mutss, ending, outsOf, wn, Tg.put, Tg.puts, Tg.slots, Tg.slotss, noOw, wipeS, restore, isTy, itemsOf, clash, cE_lc, cS_for, lcF, forF, h, h']
    rw [q, ← filter_map (fun x : Bag => encCt x.2.2), sh_one gs.lt hb]
    rfl
  have e2 : ∀ a5 a6 a7 a8 a9 a10 a11 a13 a14 a15 a16 a17 : Slot, lcGo (lcF (evDef tb n) [] 1 e__law_gone_2 (.nm 12) c__law_gone_2) (ps.map encPg) [.bo 0 (encSh sh), .bo 0 (.lst (ps.map encPg)), .bo 0 (.int b.1), .bo 0 (encDay day), W, a5, a6, a7, a8, a9, a10, a11, .no, a13, a14, a15, a16, a17] = .ok ((ps.filter (ofBag b.1)).map encPg) [.bo 0 (encSh sh), .bo 0 (.lst (ps.map encPg)), .bo 0 (.int b.1), .bo 0 (encDay day), W, a5, a6, a7, a8, a9, a10, a11, .no, a13, a14, a15, a16, a17] := fun a5 a6 a7 a8 a9 a10 a11 a13 a14 a15 a16 a17 => by
    rw [filter_map]
    exact lcGo_some fun p _ => tg_own n b.1 p _ _ _ _ _ _ _ _ _ _ _ _ _ _ _ _
  obtain ⟨qs, hq⟩ : ∃ qs, ps.filter (ofBag b.1) = qs := ⟨_, rfl⟩
  have hqm : ∀ p ∈ qs, p ∈ ps ∧ ofBag b.1 p = true := fun p m => by rw [← hq] at m; exact List.mem_filter.mp m
  have hql : qs.length ≤ 500 := by rw [← hq]; exact Nat.le_trans (List.length_filter_le _ _) hl
  rw [hq] at e2
  have e3 : ∀ a5 a6 a7 a8 a9 a10 a11 a13 a14 a15 a16 a17 : Slot, lcGo (lcF (evDef tb n) [] 1 e__law_gone_3 (.nm 12) c__law_gone_3) (qs.map encPg) [.bo 0 (encSh sh), .bo 0 (.lst (ps.map encPg)), .bo 0 (.int b.1), .bo 0 (encDay day), W, a5, a6, a7, a8, a9, a10, a11, .no, a13, a14, a15, a16, a17] = .ok ((qs.filter (dayOk day)).map kD) [.bo 0 (encSh sh), .bo 0 (.lst (ps.map encPg)), .bo 0 (.int b.1), .bo 0 (encDay day), W, a5, a6, a7, a8, a9, a10, a11, .no, a13, a14, a15, a16, a17] := fun a5 a6 a7 a8 a9 a10 a11 a13 a14 a15 a16 a17 => by
    rw [filter_map, ← hW]
    exact lcGo_some fun p m => tg_key n b.1 p (hqm p m).2 day _ _ _ _ _ _ _ _ _ _ _ _ _ _ _
  have hll : lifeOf b ps day = lifeOn b.2.2 (srtP (qs.filter (dayOk day))) := by unfold lifeOf; rw [hq, srtP_filter]
  obtain ⟨rs, hrs⟩ : ∃ rs, qs.filter (dayOk day) = rs := ⟨_, rfl⟩
  rw [hrs] at e3 hll
  have hrm : ∀ p ∈ srtP rs, p ∈ ps ∧ ofBag b.1 p = true := fun p m => by
    have m := (srtP_perm rs).mem_iff.mp m
    rw [← hrs] at m
    exact hqm p (List.mem_filter.mp m).1
  have hrl : rs.length ≤ 500 := by rw [← hrs]; exact Nat.le_trans (List.length_filter_le _ _) hql
  have hsl : (srtP rs).length ≤ 500 := by rw [(srtP_perm rs).length_eq]; exact hrl
  obtain ⟨s1, e4, u10, u11, u12, u13, u15, u16, u17, gl, rfl⟩ := forGo_pre (h := kD) (f := forF (evDef tb n) [] 1000000 (.tp [.nm 10, .nm 11, .nm 12]) b__law_gone_2)
    (P := fun a s => ∃ u10 u11 u12 u13 u15 u16 u17 : Slot, GLf a.length (lifeOn b.2.2 a) ∧ s = [.bo 0 (encSh sh), .bo 0 (.lst (ps.map encPg)), .bo 0 (.int b.1), .bo 0 (encDay day), W, .bo 0 (encCt (lifeOn b.2.2 a).con), .ow 4 (encG (lifeOn b.2.2 a)), .ow 1 (.lst ((lifeOn b.2.2 a).since.map D.str)), .bo 0 (.lst (qs.map encPg)), .bo 0 (.lst ((srtP rs).map kD)), u10, u11, u12, u13, .no, u15, u16, u17])
    (srtP rs) [] [.bo 0 (encSh sh), .bo 0 (.lst (ps.map encPg)), .bo 0 (.int b.1), .bo 0 (encDay day), W, .bo 0 (encCt b.2.2), .ow 4 (encG (newLf b.2.2)), .ow 1 (.lst []), .bo 0 (.lst (qs.map encPg)), .bo 0 (.lst ((srtP rs).map kD)), .no, .no, .no, .no, .no, .no, .no, .no] ⟨_, _, _, _, _, _, _, ⟨(gs.bags b hb).ct, by simp [lifeOn, newLf], by simp [lifeOn, newLf], by simp [lifeOn, newLf], by simp [lifeOn, newLf]⟩, rfl⟩ (by
      rintro a p r hab s ⟨u10, u11, u12, u13, u15, u16, u17, gl, rfl⟩
      have hp : p ∈ srtP rs := by
        have : p ∈ a ++ p :: r := by simp
        rw [← hab] at this
        simpa using this
      have hal : a.length ≤ 500 := by
        have := congrArg List.length hab
        rw [List.nil_append, List.length_append] at this
        omega
      have hc := ct_of (gp p (hrm p hp).1)
      obtain ⟨w13, w15, w16, w17, e⟩ := t_gone n (lifeOn b.2.2 a) p b.1 (hrm p hp).2 hc gl (by omega) (.bo 0 (encSh sh)) (.bo 0 (.lst (ps.map encPg))) (.bo 0 (encDay day)) W (.bo 0 (.lst (qs.map encPg))) (.bo 0 (.lst ((srtP rs).map kD))) u10 u11 u12 u13 .no u15 u16 u17
      have hfa : lifeOn b.2.2 (a ++ [p]) = goL (lifeOn b.2.2 a) p := by
        unfold lifeOn
        rw [List.foldl_append]
        rfl
      refine ⟨_, .inl e, _, _, _, w13, w15, w16, w17, ?_, by rw [hfa]⟩
      rw [hfa, List.length_append]
      exact gLf_go gl hc)
  rw [List.nil_append] at e4
  rw [hll]
  have h0 : idxD (.lst [encCt b.2.2]) (.int 0) = some (encCt b.2.2) := rfl
  have l1 : sh.length ≤ 16777216 := by have := gs.len; omega
  have l2 : ps.length ≤ 16777216 := by omega
  have l3 : qs.length ≤ 16777216 := by omega
  have so := sortOk_kD rs
  have sk := sort_kD rs
  have hg : D.dct [(.str "house", .non), (.str "faults", .lst []), (.str "lacks", .lst []), (.str "lent", .lst [])] = encG (newLf b.2.2) := rfl
  have hok : dcsOk 4 [("house", some .non), ("faults", none), ("lacks", none), ("lent", none)] = true := by decide
  have hpc := putG_con (lifeOn b.2.2 (srtP rs))
  rw [ev_succ n i__law_gone d__law_gone rfl]
  simp [-Ev.bind, -Ev.of, rsOf, Def.rest, ioIdx, Ti.Arg.slot, place, E.muts, E.mutss, E.mutso, chg, updD, Ti.putF, Ti.appF, Ti.extF, Ti.insF, Ti.popF, okTg, S.muts, S.mutss, ending, outsOf, wn, Tg.put, Tg.puts, Tg.slots, Tg.slotss, noOw, wipeS, restore, isTy, itemsOf, clash, cE_lc, cS_for, -idx_l, -Ti.putF, -Ti.updD, d__law_gone, hok, hg, hW, e1, h0, e2, e3, so, sk, e4, l1, l2, l3, updG_nil, hpc]
end
section
local instance pwft : PWc := ⟨none⟩
theorem ne_self {d : D} (hf : d.flat = true) (hd : d.dep ≤ 60) : cmpD .ne d d = some false := by
  rw [cmp_ne, if_pos ⟨hf, hf, by rw [Nat.min_self]; exact hd⟩, eqv_refl hf]
  rfl
theorem cmpl_str (a b : String) : D.cmpl (.str a) (.str b) = true := by simp [D.cmpl, D.alk]
theorem cmpl_pg (p q : Pg) : D.cmpl (encPg p) (encPg q) = true := by
  by_cases h : pgIdx p = pgIdx q
  · exact alk_cmpl _ _ (alk_pg h)
  · cases p <;> cases q <;> first | (exact absurd rfl h) | (simp [encPg, D.cmpl, D.cmpls, D.alk, eqvS])
theorem flat_ft (f : Ft) : (encFt f).flat = true := by simp [encFt, D.flat, D.flats, flat_pg]
theorem dep_ft (f : Ft) : (encFt f).dep ≤ 10 := by
  have := dep_pg f.2.1
  simp [encFt, D.dep, D.deps]
  omega
theorem cmpl_ft (f g : Ft) : D.cmpl (encFt f) (encFt g) = true := by
  show D.cmpls _ _ = true
  rw [D.cmpls, cmpl_int, Bool.true_and, D.cmpls, cmpl_pg, Bool.true_and, D.cmpls, cmpl_str]
  simp [D.cmpls]
theorem sortOk_ft (fs : List Ft) : sortOk (fs.map encFt) = true := sortOk_cmp (fun x hx => by
  obtain ⟨p, _, rfl⟩ := List.mem_map.mp hx
  exact ⟨flat_ft p, fun y hy => by obtain ⟨q, _, rfl⟩ := List.mem_map.mp hy; exact cmpl_ft p q⟩) (fun x hx => by obtain ⟨p, _, rfl⟩ := List.mem_map.mp hx; have := dep_ft p; omega) (.inl fun x hx => by obtain ⟨p, _, rfl⟩ := List.mem_map.mp hx; rfl)
def allF (sh : List Bag) (ps : List Pg) : List Ft := sh.flatMap fun b => (lifeOf b ps none).wrong
theorem life_perm {ps qs : List Pg} (h : ps.Perm qs) (b : Bag) (day : Option Int) : lifeOf b ps day = lifeOf b qs day := by
  unfold lifeOf
  rw [srtP_eq (h.filter _)]
theorem allF_perm {ps qs : List Pg} (h : ps.Perm qs) (sh : List Bag) : allF sh ps = allF sh qs := by
  unfold allF
  congr 1
  funext b
  rw [life_perm h]
theorem flatMap_len {α β : Type} {f : α → List β} {k : Nat} : ∀ {l : List α}, (∀ x ∈ l, (f x).length ≤ k) → (l.flatMap f).length ≤ k * l.length
  | [], _ => Nat.zero_le _
  | x :: l, h => by
    rw [List.flatMap_cons, List.length_append, List.length_cons]
    have h1 := h x List.mem_cons_self
    have h2 := flatMap_len (l := l) fun y m => h y (List.mem_cons_of_mem _ m)
    rw [Nat.mul_add, Nat.mul_one]
    omega
theorem extF0 {xs ys : List D} (h : xs.length + ys.length ≤ 1000000) : Ti.extF ys 0 (.lst xs) = some (.lst (xs ++ ys)) := by
  have : xs.length + ys.length ≤ big ∧ (0 : Nat) = 0 := ⟨by unfold big; omega, rfl⟩
  show (if xs.length + ys.length ≤ big ∧ 0 = 0 then some (D.lst (xs ++ ys)) else none) = _
  rw [if_pos this]
theorem life_wrong_len (n : Nat) (ms : List Mk) (sh : List Bag) (gs : GShelf ms sh) (b : Bag) (hb : b ∈ sh) (ids : List Int) (ps : List Pg) (gp : ∀ p ∈ ps, GPg ms ids p) (hl : ps.length ≤ 500) (day : Option Int) : GLf 500 (lifeOf b ps day) := (s_life_of n ms sh gs b hb ids ps gp hl day 0 (.inl rfl)).2
end
section
local instance pwlk : PWc := ⟨none⟩
theorem flat_strs (xs : List String) : (D.lst (xs.map D.str)).flat = true := by
  rw [D.flat]
  exact flats_map (fun _ => rfl) xs
theorem alks_strs : ∀ a b : List String, D.alks (a.map D.str) (b.map D.str) = true
  | [], b => by cases b <;> rfl
  | x :: a, [] => rfl
  | x :: a, y :: b => by
    rw [List.map_cons, List.map_cons, D.alks, alks_strs a b]
    rfl
theorem dep_strs (xs : List String) : (D.lst (xs.map D.str)).dep ≤ 1 := by
  rw [dep_lst]
  have := deps_map (f := D.str) (k := 0) (fun _ => Nat.le_refl _) xs
  omega
theorem flat_lk (f : Lk) : (encLk f).flat = true := by
  have := flat_strs f.2.2.2.2
  simp [encLk, D.flat, D.flats] at this ⊢
  exact this
theorem dep_lk (f : Lk) : (encLk f).dep ≤ 10 := by
  have := dep_strs f.2.2.2.2
  simp [encLk, D.dep, D.deps] at this ⊢
  omega
theorem cmpl_lk (f g : Lk) : D.cmpl (encLk f) (encLk g) = true := by
  show D.cmpls _ _ = true
  have h : D.cmpl (.lst (f.2.2.2.2.map D.str)) (.lst (g.2.2.2.2.map D.str)) = true := alk_cmpl _ _ (alks_strs _ _)
  rw [D.cmpls, cmpl_int, Bool.true_and, D.cmpls, cmpl_int, Bool.true_and, D.cmpls, cmpl_str, Bool.true_and, D.cmpls, cmpl_int, Bool.true_and, D.cmpls, h]
  simp [D.cmpls]
theorem sortOk_lk (fs : List Lk) : sortOk (fs.map encLk) = true := sortOk_cmp (fun x hx => by
  obtain ⟨p, _, rfl⟩ := List.mem_map.mp hx
  exact ⟨flat_lk p, fun y hy => by obtain ⟨q, _, rfl⟩ := List.mem_map.mp hy; exact cmpl_lk p q⟩) (fun x hx => by obtain ⟨p, _, rfl⟩ := List.mem_map.mp hx; have := dep_lk p; omega) (.inl fun x hx => by obtain ⟨p, _, rfl⟩ := List.mem_map.mp hx; rfl)
def srtM (ms : List Lk) : List Lk := ms.mergeSort fun a b => leD (encLk a) (encLk b)
theorem sort_lk (ms : List Lk) : sortD (ms.map encLk) = (srtM ms).map encLk := by
  unfold sortD srtM
  exact (List.map_mergeSort (f := encLk) (r := fun a b => leD (encLk a) (encLk b)) (s := PySem.W.dataLe false D.pd) fun a _ b _ => rfl).symm
theorem srtM_perm (ms : List Lk) : (srtM ms).Perm ms := List.mergeSort_perm _ _
def allM (sh : List Bag) (ps : List Pg) : List Lk := sh.flatMap fun b => (lifeOf b ps none).missing
theorem allM_perm {ps qs : List Pg} (h : ps.Perm qs) (sh : List Bag) : allM sh ps = allM sh qs := by
  unfold allM
  congr 1
  funext b
  rw [life_perm h]
/-- the lacks told -/
def lacksOf (sh : List Bag) (ps : List Pg) : List Lk := srtM (allM sh ps)
theorem fit_if3 (d : D) : (RV.ow (if deep 1 3 d = true then 1 else 3) d).fit 3 = some d := by
  split
  · rename_i h
    simp [RV.fit, h]
  · simp
theorem extM3 {xs ys : List D} (h : xs.length + ys.length ≤ 1000000) : Ti.extM (RV.ow (if deep 1 3 (.lst ys) = true then 1 else 3) (.lst ys)) 2 (.lst xs) = some (.lst (xs ++ ys)) := by
  have : xs.length + ys.length ≤ big := by unfold big; omega
  simp only [Ti.extM]
  rw [fit_if3]
  simp [this]
theorem eqvs_strs : ∀ a b : List String, D.eqvs (a.map D.str) (b.map D.str) = decide (a = b)
  | [], [] => rfl
  | [], _ :: _ => by simp [D.eqvs]
  | _ :: _, [] => by simp [D.eqvs]
  | x :: a, y :: b => by
    rw [List.map_cons, List.map_cons, D.eqvs, eqvS, eqvs_strs a b]
    by_cases h : x = y <;> by_cases h2 : a = b <;> simp [h, h2]
theorem eq_strs (a b : List String) : cmpD .eq (.lst (a.map D.str)) (.lst (b.map D.str)) = some (decide (a = b)) := by
  have h1 := dep_strs a
  have h2 := dep_strs b
  rw [cmp_eq, if_pos ⟨flat_strs a, flat_strs b, by omega⟩, D.eqv, eqvs_strs]
theorem in_strs (x : String) (a : List String) : inD (.str x) (.lst (a.map D.str)) = some (decide (x ∈ a)) := by
  have hf := flat_strs a
  rw [D.flat] at hf
  rw [inD, if_pos ⟨rfl, hf, by simp [D.dep]⟩]
  congr 1
  rw [Bool.eq_iff_iff, List.any_eq_true, decide_eq_true_eq]
  constructor
  · rintro ⟨y, hy, e⟩
    obtain ⟨z, hz, rfl⟩ := List.mem_map.mp hy
    rw [eqvS, beq_iff_eq] at e
    rwa [← e]
  · intro h
    exact ⟨.str x, List.mem_map.mpr ⟨x, h, rfl⟩, by rw [eqvS]; simp⟩
def sureOf (rows : List Lk) (h : String) : List Lk := rows.filter fun r => decide (r.2.2.2.2 = [h])
def perhOf (rows : List Lk) (h : String) : List Lk := rows.filter fun r => decide (1 < r.2.2.2.2.length) && decide (h ∈ r.2.2.2.2)
theorem lk_4 (r : Lk) : idxD (encLk r) (.int 4) = some (.lst (r.2.2.2.2.map D.str)) := rfl
theorem eq_one (a : List String) (h : String) : cmpD .eq (.lst (a.map D.str)) (.lst [.str h]) = some (decide (a = [h])) := eq_strs a [h]
end
section
local instance pwlk2 : PWc := ⟨none⟩
theorem s_lacks (n : Nat) (ms : List Mk) (sh : List Bag) (gs : GShelf ms sh) (ids : List Int) (ps : List Pg) (gp : ∀ p ∈ ps, GPg ms ids p) (hl : ps.length ≤ 500) (j : Nat) (hj : j = 0 ∨ j = 1) :
    evDef tb (n + 4) i_lacks [.pv 0 (encSh sh), .pv j (.lst (ps.map encPg))] = .ok 3 (.lst ((lacksOf sh ps).map encLk)) [] := by
  obtain ⟨s1, e1, v3, rfl⟩ := forGo_pre (h := encBag) (f := forF (evDef tb (n + 3)) [] 1000000 (.nm 3) b_lacks_1)
    (P := fun a s => ∃ v3 : Slot, s = [.bo 0 (encSh sh), .bo j (.lst (ps.map encPg)), .ow 3 (.lst ((allM a ps).map encLk)), v3])
    sh [] [.bo 0 (encSh sh), .bo j (.lst (ps.map encPg)), .ow 3 (.lst []), .no] ⟨.no, rfl⟩ (by
      rintro a b r hab s ⟨v3, rfl⟩
      have hall : ∀ x ∈ a ++ b :: r, x ∈ sh := fun x m => by rw [← hab] at m; simpa using m
      have hb : b ∈ sh := hall b (by simp)
      have hal : a.length ≤ 15 := by
        have h1 := congrArg List.length hab
        have h2 := gs.len
        rw [List.nil_append, List.length_append] at h1
        omega
      obtain ⟨e, g⟩ := s_life_of n ms sh gs b hb ids ps gp hl none j hj
      have gm := g.m
      have hla : (allM a ps).length ≤ 4500 * a.length := flatMap_len fun x m => (life_wrong_len n ms sh gs x (hall x (by simp [m])) ids ps gp hl none).m
      have ex := extM3 (xs := (allM a ps).map encLk) (ys := (lifeOf b ps none).missing.map encLk) (by rw [List.length_map, List.length_map]; omega)
      have ea : allM (a ++ [b]) ps = allM a ps ++ (lifeOf b ps none).missing := by simp [allM]
      have up : ∀ (d : D) (f : Nat → D → Option D), Ti.updD 3 d [] f = f 2 d := fun _ _ => rfl
      refine ⟨_, .inl ?_, .bo 0 (encBag b), by rw [ea, List.map_append]⟩
      simp only [encDay] at e
      rcases hj with rfl | rfl <;> simp [-Ev.bind, -Ev.of, rsOf, Def.rest, ioIdx, Ti.Arg.slot, place, E.muts, E.mutss, E.mutso, chg, updD, Ti.putF, Ti.appF, Ti.extF, Ti.insF, Ti.popF, okTg, S.muts, S.mutss, ending, outsOf, wn, Tg.put, Tg.puts, Tg.slots, Tg.slotss, noOw, wipeS, restore, isTy, itemsOf, clash, cE_lc, cS_for, lcF, forF, -Ti.updD, -Ti.extM, e, fldL_missing, up, ex])
  have so := sortOk_lk (allM sh ps)
  have sk := sort_lk (allM sh ps)
  rw [List.nil_append] at e1
  rw [ev_succ (n + 3) i_lacks d_lacks rfl]
  rcases hj with rfl | rfl <;> simp [-Ev.bind, -Ev.of, rsOf, Def.rest, ioIdx, Ti.Arg.slot, place, E.muts, E.mutss, E.mutso, chg, updD, Ti.putF, Ti.appF, Ti.extF, Ti.insF, Ti.popF, okTg, S.muts, S.mutss, ending, outsOf, wn, Tg.put, Tg.puts, Tg.slots, Tg.slotss, noOw, wipeS, restore, isTy, itemsOf, clash, cE_lc, cS_for, d_lacks, e1, so, sk, lacksOf]
end
section
/-- a walk that changes its items -/
def walkU {α τ : Type} (U : α → τ → α) (T : α → τ → τ) : List α → τ → List α × τ
  | [], t => ([], t)
  | a :: as, t => (U a t :: (walkU U T as (T a t)).1, (walkU U T as (T a t)).2)
theorem fmGo_walk {α τ ω : Type} {h : α → D} {U : α → τ → α} {T : α → τ → τ} {f : Sl → Out} {i j k : Nat} {R : τ → ω → Slot → Slot → Sl} {P : List α → τ → Prop}
    (ri : ∀ t w x y, (R t w x y)[i]? = some x) (rj : ∀ t w x y, (R t w x y)[j]? = some y) (si : ∀ t w x y z, (R t w x y).set i z = R t w z y) (sj : ∀ t w x y z, (R t w x y).set j z = R t w x z)
    (hf : ∀ a as t w, P (a :: as) t → (∃ w', f (R t w (.ow (k + 1) (h a)) .no) = .nx (R (T a t) w' (.ow (k + 1) (h (U a t))) .no)) ∧ P as (T a t)) :
    ∀ (as done : List α) (t : τ) (w : ω), P as t → ∃ w', fmGo i j f as.length done.length (R t w .no (.ow (k + 2) (.lst ((done ++ as).map h)))) = .nx (R (walkU U T as t).2 w' .no (.ow (k + 2) (.lst ((done ++ (walkU U T as t).1).map h))))
  | [], done, t, w, _ => ⟨w, rfl⟩
  | a :: as, done, t, w, hp => by
    obtain ⟨⟨w1, e1⟩, p1⟩ := hf a as t w hp
    obtain ⟨w2, e2⟩ := fmGo_walk ri rj si sj hf as (done ++ [U a t]) (T a t) w1 p1
    refine ⟨w2, ?_⟩
    have g : ((done ++ a :: as).map h)[done.length]? = some (h a) := by simp
    have s1 : ((done ++ a :: as).map h).set done.length (h (U a t)) = ((done ++ [U a t]) ++ as).map h := by simp
    rw [List.length_cons, fmGo, rj]
    simp only [g, sj, si, e1, ri, rj, if_true, s1]
    rw [List.length_append] at e2
    simp only [List.length_cons, List.length_nil] at e2
    have e0 : (done ++ [U a t]) ++ (walkU U T as (T a t)).1 = done ++ (walkU U T (a :: as) t).1 := by simp [walkU]
    rw [e0] at e2
    exact e2
/-- a slot that owns nothing -/
def bs : Option D → Slot
  | none => .no
  | some d => .bo 0 d
@[simp] theorem bs_none : bs none = .no := id rfl
@[simp] theorem bs_some (d : D) : bs (some d) = .bo 0 d := id rfl
end
section
local instance pwl13 : PWc := ⟨none⟩
theorem flats_of {α : Type} {f : α → D} (h : ∀ a, (f a).flat = true) (l : List α) : (D.lst (l.map f)).flat = true := by
  rw [D.flat]
  exact flats_map h l
theorem dep_of {α : Type} {f : α → D} {k : Nat} (h : ∀ a, (f a).dep ≤ k) (l : List α) : (D.lst (l.map f)).dep ≤ k + 1 := by
  rw [dep_lst]
  have := deps_map h l
  omega
theorem ne_lks (l : List Lk) : cmpD .ne (.lst (l.map encLk)) (.lst (l.map encLk)) = some false := ne_self (flats_of flat_lk l) (by have := dep_of dep_lk l; omega)
theorem lacks_len (n : Nat) (ms : List Mk) (sh : List Bag) (gs : GShelf ms sh) (ids : List Int) (ps : List Pg) (gp : ∀ p ∈ ps, GPg ms ids p) (hl : ps.length ≤ 500) : (lacksOf sh ps).length ≤ 67500 := by
  unfold lacksOf
  rw [(srtM_perm _).length_eq]
  have h1 : (allM sh ps).length ≤ 4500 * sh.length := flatMap_len fun x m => (life_wrong_len n ms sh gs x m ids ps gp hl none).m
  have := gs.len
  omega
theorem s_surely (n : Nat) (ms : List Mk) (sh : List Bag) (gs : GShelf ms sh) (ids : List Int) (ps : List Pg) (gp : ∀ p ∈ ps, GPg ms ids p) (hl : ps.length ≤ 500) (h : String) :
    evDef tb (n + 5) i_surely [.pv 0 (encSh sh), .pv 0 (.lst (ps.map encPg)), .pv 0 (.str h)] = .ok 1 (.lst ((sureOf (lacksOf sh ps) h).map encLk)) [] := by
  have e1 := s_lacks n ms sh gs ids ps gp hl 0 (.inl rfl)
  have hlen := lacks_len n ms sh gs ids ps gp hl
  have e2 : lcGo (lcF (evDef tb (n + 4)) [] 1 e_surely_1 (.nm 3) c_surely_1) ((lacksOf sh ps).map encLk) [.bo 0 (encSh sh), .bo 0 (.lst (ps.map encPg)), .bo 0 (.str h), .no] = .ok ((sureOf (lacksOf sh ps) h).map encLk) [.bo 0 (encSh sh), .bo 0 (.lst (ps.map encPg)), .bo 0 (.str h), .no] := by
    unfold sureOf
    rw [filter_map]
    exact lcGo_some fun r _ => by
      by_cases q : r.2.2.2.2 = [h]
      · have hd : decide (r.2.2.2.2 = [h]) = true := by rw [q]; simp
        have e9 := eq_one r.2.2.2.2 h
        rw [hd] at e9
        simp [-Ev.bind, -Ev.of, rsOf, Def.rest, ioIdx, Ti.Arg.slot, place, E.muts, E.mutss, E.mutso, chg, updD, Ti.putF, Ti.appF, Ti.extF, Ti.insF, Ti.popF, okTg, S.muts, S.mutss, ending, outsOf, wn, Tg.put, Tg.puts, Tg.slots, Tg.slotss, noOw, wipeS, restore, isTy, itemsOf, clash, cE_lc, cS_for, lcF, forF, lk_4, e9, hd]
      · have hd : decide (r.2.2.2.2 = [h]) = false := by simpa using q
        have e9 := eq_one r.2.2.2.2 h
        rw [hd] at e9
        simp [-Ev.bind, -Ev.of, rsOf, Def.rest, ioIdx, Ti.Arg.slot, place, E.muts, E.mutss, E.mutso, chg, updD, Ti.putF, Ti.appF, Ti.extF, Ti.insF, Ti.popF, okTg, S.muts, S.mutss, ending, outsOf, wn, Tg.put, Tg.puts, Tg.slots, Tg.slotss, noOw, wipeS, restore, isTy, itemsOf, clash, cE_lc, cS_for, lcF, forF, lk_4, e9, hd]
  have hb : (lacksOf sh ps).length ≤ 16777216 := by omega
  rw [ev_succ (n + 4) i_surely d_surely rfl]
  simp [-Ev.bind, -Ev.of, rsOf, Def.rest, ioIdx, Ti.Arg.slot, place, E.muts, E.mutss, E.mutso, chg, updD, Ti.putF, Ti.appF, Ti.extF, Ti.insF, Ti.popF, okTg, S.muts, S.mutss, ending, outsOf, wn, Tg.put, Tg.puts, Tg.slots, Tg.slotss, noOw, wipeS, restore, isTy, itemsOf, clash, cE_lc, cS_for, d_surely, e1, e2, hb]
theorem s_perhaps (n : Nat) (ms : List Mk) (sh : List Bag) (gs : GShelf ms sh) (ids : List Int) (ps : List Pg) (gp : ∀ p ∈ ps, GPg ms ids p) (hl : ps.length ≤ 500) (h : String) :
    evDef tb (n + 5) i_perhaps [.pv 0 (encSh sh), .pv 0 (.lst (ps.map encPg)), .pv 0 (.str h)] = .ok 1 (.lst ((perhOf (lacksOf sh ps) h).map encLk)) [] := by
  have e1 := s_lacks n ms sh gs ids ps gp hl 0 (.inl rfl)
  have hlen := lacks_len n ms sh gs ids ps gp hl
  have e2 : lcGo (lcF (evDef tb (n + 4)) [] 1 e_perhaps_1 (.nm 3) c_perhaps_1) ((lacksOf sh ps).map encLk) [.bo 0 (encSh sh), .bo 0 (.lst (ps.map encPg)), .bo 0 (.str h), .no] = .ok ((perhOf (lacksOf sh ps) h).map encLk) [.bo 0 (encSh sh), .bo 0 (.lst (ps.map encPg)), .bo 0 (.str h), .no] := by
    unfold perhOf
    rw [filter_map]
    exact lcGo_some fun r _ => by
      by_cases q : 1 < r.2.2.2.2.length
      · have q' : (1 : Int) < (r.2.2.2.2.length : Int) := by omega
        by_cases q2 : h ∈ r.2.2.2.2
        · simp [-Ev.bind, -Ev.of, rsOf, Def.rest, ioIdx, Ti.Arg.slot, place, E.muts, E.mutss, E.mutso, chg, updD, Ti.putF, Ti.appF, Ti.extF, Ti.insF, Ti.popF, okTg, S.muts, S.mutss, ending, outsOf, wn, Tg.put, Tg.puts, Tg.slots, Tg.slotss, noOw, wipeS, restore, isTy, itemsOf, clash, cE_lc, cS_for, lcF, forF, lk_4, in_strs, q, q', q2]
        · simp [-Ev.bind, -Ev.of, rsOf, Def.rest, ioIdx, Ti.Arg.slot, place, E.muts, E.mutss, E.mutso, chg, updD, Ti.putF, Ti.appF, Ti.extF, Ti.insF, Ti.popF, okTg, S.muts, S.mutss, ending, outsOf, wn, Tg.put, Tg.puts, Tg.slots, Tg.slotss, noOw, wipeS, restore, isTy, itemsOf, clash, cE_lc, cS_for, lcF, forF, lk_4, in_strs, q, q', q2]
      · have q' : ¬ (1 : Int) < (r.2.2.2.2.length : Int) := by omega
        simp [-Ev.bind, -Ev.of, rsOf, Def.rest, ioIdx, Ti.Arg.slot, place, E.muts, E.mutss, E.mutso, chg, updD, Ti.putF, Ti.appF, Ti.extF, Ti.insF, Ti.popF, okTg, S.muts, S.mutss, ending, outsOf, wn, Tg.put, Tg.puts, Tg.slots, Tg.slotss, noOw, wipeS, restore, isTy, itemsOf, clash, cE_lc, cS_for, lcF, forF, lk_4, in_strs, q, q']
  have hb : (lacksOf sh ps).length ≤ 16777216 := by omega
  rw [ev_succ (n + 4) i_perhaps d_perhaps rfl]
  simp [-Ev.bind, -Ev.of, rsOf, Def.rest, ioIdx, Ti.Arg.slot, place, E.muts, E.mutss, E.mutso, chg, updD, Ti.putF, Ti.appF, Ti.extF, Ti.insF, Ti.popF, okTg, S.muts, S.mutss, ending, outsOf, wn, Tg.put, Tg.puts, Tg.slots, Tg.slotss, noOw, wipeS, restore, isTy, itemsOf, clash, cE_lc, cS_for, d_perhaps, e1, e2, hb]
theorem t_due (n : Nat) (ms : List Mk) (sh : List Bag) (gs : GShelf ms sh) (ids : List Int) (ps : List Pg) (gp : ∀ p ∈ ps, GPg ms ids p) (hl : ps.length ≤ 500) (a0 a1 a2 v4 a5 a6 a7 a8 a9 : Slot) :
    ∃ v4' : Slot, forGo (forF (evDef tb (n + 5)) [] 1000000 (.nm 4) b_law_1) (sh.map encBag) [a0, a1, a2, .ow 1 (.lst []), v4, a5, a6, a7, a8, a9, .bo 0 (encSh sh), .bo 0 (.lst (ps.map encPg)), .no] =
      .nx [a0, a1, a2, .ow 1 (.lst ((allM sh ps).map encLk)), v4', a5, a6, a7, a8, a9, .bo 0 (encSh sh), .bo 0 (.lst (ps.map encPg)), .no] := by
  obtain ⟨s1, e1, v3, rfl⟩ := forGo_pre (h := encBag) (f := forF (evDef tb (n + 5)) [] 1000000 (.nm 4) b_law_1)
    (P := fun a s => ∃ v4 : Slot, s = [a0, a1, a2, .ow 1 (.lst ((allM a ps).map encLk)), v4, a5, a6, a7, a8, a9, .bo 0 (encSh sh), .bo 0 (.lst (ps.map encPg)), .no])
    sh [] [a0, a1, a2, .ow 1 (.lst []), v4, a5, a6, a7, a8, a9, .bo 0 (encSh sh), .bo 0 (.lst (ps.map encPg)), .no] ⟨v4, rfl⟩ (by
      rintro a b r hab s ⟨v3, rfl⟩
      have hall : ∀ x ∈ a ++ b :: r, x ∈ sh := fun x m => by rw [← hab] at m; simpa using m
      have hb : b ∈ sh := hall b (by simp)
      have hal : a.length ≤ 15 := by
        have h1 := congrArg List.length hab
        have h2 := gs.len
        rw [List.nil_append, List.length_append] at h1
        omega
      have e := s_gone (n + 4) ms sh gs b hb ids ps gp hl none
      have gm := (life_wrong_len n ms sh gs b hb ids ps gp hl none).m
      have hla : (allM a ps).length ≤ 4500 * a.length := flatMap_len fun x m => (life_wrong_len n ms sh gs x (hall x (by simp [m])) ids ps gp hl none).m
      have ex := extF0 (xs := (allM a ps).map encLk) (ys := (lifeOf b ps none).missing.map encLk) (by rw [List.length_map, List.length_map]; omega)
      have ea : allM (a ++ [b]) ps = allM a ps ++ (lifeOf b ps none).missing := by simp [allM]
      refine ⟨_, .inl ?_, .bo 0 (encBag b), by rw [ea, List.map_append]⟩
      simp only [encDay] at e
      simp [-Ev.bind, -Ev.of, rsOf, Def.rest, ioIdx, Ti.Arg.slot, place, E.muts, E.mutss, E.mutso, chg, updD, Ti.putF, Ti.appF, Ti.extF, Ti.insF, Ti.popF, okTg, S.muts, S.mutss, ending, outsOf, wn, Tg.put, Tg.puts, Tg.slots, Tg.slotss, noOw, wipeS, restore, isTy, itemsOf, clash, cE_lc, cS_for, lcF, forF, -Ti.extF, e, gone_lacks, ex])
  exact ⟨v3, e1⟩
def zzL (r : Lk) : Lk := (r.1, r.2.1, r.2.2.1, r.2.2.2.1, r.2.2.2.2 ++ ["zz"])
theorem srtS_len (xs : List String) : (srtS xs).length ≤ xs.length := by
  unfold srtS
  rw [(sortS_perm _).length_eq]
  have : ∀ n : Nat, ∀ ys : List String, ys.length ≤ n → ys.eraseDups.length ≤ ys.length := by
    intro n
    induction n with
    | zero =>
      intro ys h
      obtain rfl : ys = [] := List.eq_nil_of_length_eq_zero (by omega)
      simp
    | succ n ih =>
      intro ys h
      cases ys with
      | nil => simp
      | cons y ys =>
        rw [List.eraseDups_cons, List.length_cons, List.length_cons]
        have h1 := List.length_filter_le (fun b => !b == y) ys
        rw [List.length_cons] at h
        have := ih _ (Nat.le_trans h1 (by omega))
        omega
  exact this _ _ (Nat.le_refl _)
theorem life_hs (N : Nat) : ∀ (ps : List Pg) (l : Lf), l.since.length + ps.length ≤ N → (∀ x ∈ l.missing, x.2.2.2.2.length ≤ N) → ∀ x ∈ (ps.foldl goL l).missing, x.2.2.2.2.length ≤ N
  | [], l, _, h => h
  | p :: ps, l, hs, h => by
    rw [List.length_cons] at hs
    rw [List.foldl_cons]
    have hm : ∀ (b d : Int) (c : Ct), ∀ x ∈ l.con.filterMap (lackRow l.since b d c), x.2.2.2.2.length ≤ N := fun b d c x m => by
      obtain ⟨r, _, e⟩ := List.mem_filterMap.mp m
      unfold lackRow at e
      split at e
      · cases e
        have := srtS_len l.since
        show (srtS l.since).length ≤ N
        omega
      · cases e
    refine life_hs N ps (goL l p) ?_ ?_
    · unfold goL
      split
      · dsimp only; omega
      · split
        · dsimp only; omega
        · simp only [List.length_append, List.length_cons, List.length_nil]; omega
        · simp; omega
        · omega
    · unfold goL
      split
      · exact h
      · split
        · exact h
        · exact h
        · intro x m
          rcases List.mem_append.mp m with m | m
          · exact h x m
          · exact hm _ _ _ x m
        · exact h
theorem lacks_hs (sh : List Bag) (ps : List Pg) (hl : ps.length ≤ 500) : ∀ x ∈ lacksOf sh ps, x.2.2.2.2.length ≤ 500 := fun x m => by
  have m := (srtM_perm _).mem_iff.mp m
  obtain ⟨b, _, m⟩ := List.mem_flatMap.mp m
  refine life_hs 500 _ (newLf b.2.2) ?_ (fun x m => by cases m) x m
  have h1 := List.length_filter_le (dayOk none) (srtP (ps.filter (ofBag b.1)))
  have h2 := (srtP_perm (ps.filter (ofBag b.1))).length_eq
  have h3 := List.length_filter_le (ofBag b.1) ps
  show 0 + _ ≤ 500
  omega
theorem s_zz (cf : Nat → List Ti.Arg → Rs) (rows : List Lk) (hh : ∀ x ∈ rows, x.2.2.2.2.length ≤ 500) (a0 a1 a2 a3 a4 a7 a8 a9 a10 a11 a12 : Slot) :
    fmGo 6 5 (evSs cf [6, 5] 1000000 b_law_2) rows.length 0 [a0, a1, a2, a3, a4, .ow 3 (.lst (rows.map encLk)), .no, a7, a8, a9, a10, a11, a12] = .nx [a0, a1, a2, a3, a4, .ow 3 (.lst ((rows.map zzL).map encLk)), .no, a7, a8, a9, a10, a11, a12] := by
  obtain ⟨_, e⟩ := fmGo_walk (α := Lk) (τ := Unit) (ω := Unit) (h := encLk) (U := fun a _ => zzL a) (T := fun _ t => t) (f := evSs cf [6, 5] 1000000 b_law_2) (i := 6) (j := 5) (k := 1)
    (R := fun _ _ x y => [a0, a1, a2, a3, a4, y, x, a7, a8, a9, a10, a11, a12]) (P := fun as _ => ∀ x ∈ as, x.2.2.2.2.length ≤ 500)
    (fun _ _ _ _ => rfl) (fun _ _ _ _ => rfl) (fun _ _ _ _ _ => rfl) (fun _ _ _ _ _ => rfl) (fun a as t w hp => by
      refine ⟨⟨(), ?_⟩, fun x m => hp x (List.mem_cons_of_mem _ m)⟩
      have h1 := hp a List.mem_cons_self
      have hb : a.2.2.2.2.length < big := by unfold big; omega
      simp [-Ev.bind, -Ev.of, rsOf, Def.rest, ioIdx, Ti.Arg.slot, place, E.muts, E.mutss, E.mutso, chg, updD, Ti.putF, Ti.appF, Ti.extF, Ti.insF, Ti.popF, okTg, S.muts, S.mutss, ending, outsOf, wn, Tg.put, Tg.puts, Tg.slots, Tg.slotss, noOw, wipeS, restore, isTy, itemsOf, clash, cE_lc, cS_for, encLk, zzL, hb]) rows [] () () hh
  have hw : ∀ l : List Lk, (walkU (fun a (_ : Unit) => zzL a) (fun _ t => t) l ()).1 = l.map zzL := by
    intro l
    induction l with
    | nil => rfl
    | cons a l ih => rw [walkU, List.map_cons, ih]
  simp only [List.nil_append, List.length_nil] at e
  rw [hw] at e
  exact e
end
section
theorem walk_bo3 (d : D) (ms : List Nat) (o : Option (List D)) (h : ms = []) : (RV.bo [3] 1 d).walk ms o = o := by
  subst h
  simp [RV.walk, clash]
theorem t_house (n : Nat) (ms : List Mk) (sh : List Bag) (gs : GShelf ms sh) (ids : List Int) (ps : List Pg) (gp : ∀ p ∈ ps, GPg ms ids p) (hl : ps.length ≤ 500) (h : String) (a0 a1 a2 a4 a5 a7 v8 a9 a12 : Slot) :
    forF (evDef tb (n + 5)) [] 1000000 (.nm 8) b_law_3 (.str h) [a0, a1, a2, .ow 1 (.lst ((lacksOf sh ps).map encLk)), a4, a5, .no, a7, v8, a9, .bo 0 (encSh sh), .bo 0 (.lst (ps.map encPg)), a12] =
      .nx [a0, a1, a2, .ow 1 (.lst ((lacksOf sh ps).map encLk)), a4, a5, .no, a7, .bo 0 (.str h), a9, .bo 0 (encSh sh), .bo 0 (.lst (ps.map encPg)), a12] := by
  have e1 := s_surely n ms sh gs ids ps gp hl h
  have e2 := s_perhaps n ms sh gs ids ps gp hl h
  have hlen := lacks_len n ms sh gs ids ps gp hl
  have hb : (lacksOf sh ps).length ≤ 16777216 := by omega
  have f1 : lcGo (lcF (evDef tb (n + 5)) [] 1 e_law_2 (.nm 6) c_law_2) ((lacksOf sh ps).map encLk) [a0, a1, a2, .ow 1 (.lst ((lacksOf sh ps).map encLk)), a4, a5, .no, a7, .bo 0 (.str h), a9, .bo 0 (encSh sh), .bo 0 (.lst (ps.map encPg)), a12] = .ok ((sureOf (lacksOf sh ps) h).map encLk) [a0, a1, a2, .ow 1 (.lst ((lacksOf sh ps).map encLk)), a4, a5, .no, a7, .bo 0 (.str h), a9, .bo 0 (encSh sh), .bo 0 (.lst (ps.map encPg)), a12] := by
    unfold sureOf
    rw [filter_map]
    exact lcGo_some fun r _ => by
      by_cases q : r.2.2.2.2 = [h]
      · have hd : decide (r.2.2.2.2 = [h]) = true := by rw [q]; simp
        have e9 := eq_one r.2.2.2.2 h
        rw [hd] at e9
        simp [-Ev.bind, -Ev.of, rsOf, Def.rest, ioIdx, Ti.Arg.slot, place, E.muts, E.mutss, E.mutso, chg, updD, Ti.putF, Ti.appF, Ti.extF, Ti.insF, Ti.popF, okTg, S.muts, S.mutss, ending, outsOf, wn, Tg.put, Tg.puts, Tg.slots, Tg.slotss, noOw, wipeS, restore, isTy, itemsOf, clash, cE_lc, cS_for, lcF, forF, lk_4, e9, hd]
      · have hd : decide (r.2.2.2.2 = [h]) = false := by simpa using q
        have e9 := eq_one r.2.2.2.2 h
        rw [hd] at e9
        simp [-Ev.bind, -Ev.of, rsOf, Def.rest, ioIdx, Ti.Arg.slot, place, E.muts, E.mutss, E.mutso, chg, updD, Ti.putF, Ti.appF, Ti.extF, Ti.insF, Ti.popF, okTg, S.muts, S.mutss, ending, outsOf, wn, Tg.put, Tg.puts, Tg.slots, Tg.slotss, noOw, wipeS, restore, isTy, itemsOf, clash, cE_lc, cS_for, lcF, forF, lk_4, e9, hd]
  have f2 : lcGo (lcF (evDef tb (n + 5)) [] 1 e_law_3 (.nm 6) c_law_3) ((lacksOf sh ps).map encLk) [a0, a1, a2, .ow 1 (.lst ((lacksOf sh ps).map encLk)), a4, a5, .no, a7, .bo 0 (.str h), a9, .bo 0 (encSh sh), .bo 0 (.lst (ps.map encPg)), a12] = .ok ((perhOf (lacksOf sh ps) h).map encLk) [a0, a1, a2, .ow 1 (.lst ((lacksOf sh ps).map encLk)), a4, a5, .no, a7, .bo 0 (.str h), a9, .bo 0 (encSh sh), .bo 0 (.lst (ps.map encPg)), a12] := by
    unfold perhOf
    rw [filter_map]
    exact lcGo_some fun r _ => by
      by_cases q : 1 < r.2.2.2.2.length
      · have q' : (1 : Int) < (r.2.2.2.2.length : Int) := by omega
        by_cases q2 : h ∈ r.2.2.2.2
        · simp [-Ev.bind, -Ev.of, rsOf, Def.rest, ioIdx, Ti.Arg.slot, place, E.muts, E.mutss, E.mutso, chg, updD, Ti.putF, Ti.appF, Ti.extF, Ti.insF, Ti.popF, okTg, S.muts, S.mutss, ending, outsOf, wn, Tg.put, Tg.puts, Tg.slots, Tg.slotss, noOw, wipeS, restore, isTy, itemsOf, clash, cE_lc, cS_for, lcF, forF, lk_4, in_strs, q, q', q2]
        · simp [-Ev.bind, -Ev.of, rsOf, Def.rest, ioIdx, Ti.Arg.slot, place, E.muts, E.mutss, E.mutso, chg, updD, Ti.putF, Ti.appF, Ti.extF, Ti.insF, Ti.popF, okTg, S.muts, S.mutss, ending, outsOf, wn, Tg.put, Tg.puts, Tg.slots, Tg.slotss, noOw, wipeS, restore, isTy, itemsOf, clash, cE_lc, cS_for, lcF, forF, lk_4, in_strs, q, q', q2]
      · have q' : ¬ (1 : Int) < (r.2.2.2.2.length : Int) := by omega
        simp [-Ev.bind, -Ev.of, rsOf, Def.rest, ioIdx, Ti.Arg.slot, place, E.muts, E.mutss, E.mutso, chg, updD, Ti.putF, Ti.appF, Ti.extF, Ti.insF, Ti.popF, okTg, S.muts, S.mutss, ending, outsOf, wn, Tg.put, Tg.puts, Tg.slots, Tg.slotss, noOw, wipeS, restore, isTy, itemsOf, clash, cE_lc, cS_for, lcF, forF, lk_4, in_strs, q, q']
  have n1 := ne_lks (sureOf (lacksOf sh ps) h)
  have n2 := ne_lks (perhOf (lacksOf sh ps) h)
  simp [-Ev.bind, -Ev.of, rsOf, Def.rest, ioIdx, Ti.Arg.slot, place, E.muts, E.mutss, E.mutso, chg, updD, Ti.putF, Ti.appF, Ti.extF, Ti.insF, Ti.popF, okTg, S.muts, S.mutss, ending, outsOf, wn, Tg.put, Tg.puts, Tg.slots, Tg.slotss, noOw, wipeS, restore, isTy, itemsOf, clash, cE_lc, cS_for, lcF, forF, e1, e2, f1, f2, n1, n2, hb, RV.walk]
def lentH : Pg → Option String
  | .lent _ _ h => some h
  | _ => none
theorem t_lent (n : Nat) (p : Pg) (a0 a1 a2 a3 a4 a5 a6 a7 a8 a9 a10 a11 : Slot) : lcF (evDef tb n) [] 1 e_law_1 (.nm 12) c_law_1 (encPg p) [a0, a1, a2, a3, a4, a5, a6, a7, a8, a9, a10, a11, .no] = .ok ((lentH p).map D.str) [a0, a1, a2, a3, a4, a5, a6, a7, a8, a9, a10, a11, .no] := by
  cases p with
  | lent b d h =>
    have p3 : idxD (encPg (.lent b d h)) (.int 3) = some (.str h) := rfl
    simp [-Ev.bind, -Ev.of, rsOf, Def.rest, ioIdx, Ti.Arg.slot, place, E.muts, E.mutss, E.mutso, chg, updD, Ti.putF, Ti.appF, Ti.extF, Ti.insF, Ti.popF, okTg, S.muts, S.mutss, ending, outsOf, wn, Tg.put, Tg.puts, Tg.slots, Tg.slotss, noOw, wipeS, restore, isTy, itemsOf, clash, cE_lc, cS_for, lcF, forF, pg_0, pgWord, lentH, p3]
  | back b d => simp [-Ev.bind, -Ev.of, rsOf, Def.rest, ioIdx, Ti.Arg.slot, place, E.muts, E.mutss, E.mutso, chg, updD, Ti.putF, Ti.appF, Ti.extF, Ti.insF, Ti.popF, okTg, S.muts, S.mutss, ending, outsOf, wn, Tg.put, Tg.puts, Tg.slots, Tg.slotss, noOw, wipeS, restore, isTy, itemsOf, clash, cE_lc, cS_for, lcF, forF, pg_0, pgWord, lentH]
  | cnt b d c => simp [-Ev.bind, -Ev.of, rsOf, Def.rest, ioIdx, Ti.Arg.slot, place, E.muts, E.mutss, E.mutso, chg, updD, Ti.putF, Ti.appF, Ti.extF, Ti.insF, Ti.popF, okTg, S.muts, S.mutss, ending, outsOf, wn, Tg.put, Tg.puts, Tg.slots, Tg.slotss, noOw, wipeS, restore, isTy, itemsOf, clash, cE_lc, cS_for, lcF, forF, pg_0, pgWord, lentH]
  | waits x d h => simp [-Ev.bind, -Ev.of, rsOf, Def.rest, ioIdx, Ti.Arg.slot, place, E.muts, E.mutss, E.mutso, chg, updD, Ti.putF, Ti.appF, Ti.extF, Ti.insF, Ti.popF, okTg, S.muts, S.mutss, ending, outsOf, wn, Tg.put, Tg.puts, Tg.slots, Tg.slotss, noOw, wipeS, restore, isTy, itemsOf, clash, cE_lc, cS_for, lcF, forF, pg_0, pgWord, lentH]
theorem slc_strs (xs : List String) : slcL (xs.map D.str) none (some 4) = (xs.take (min 4 xs.length)).map D.str := by
  unfold slcL
  simp only [Option.map_some, Option.map_none, Option.getD_some, Option.getD_none, List.drop_zero, bnd]
  rw [if_pos (by decide), List.length_map, List.map_take]
  rfl
theorem t_turn (n k : Nat) (t : T) (v0 v2 v3 v4 v5 v6 v7 v8 v9 v10 v11 : Slot) (h6 : v6 = .no ∨ v6 = .no) : ∃ (t' : T) (w2 w3 w4 w5 w7 w8 w9 w10 w11 : Slot), forF (evDef tb (n + 5)) [] 1000000 (.nm 2) b_law_4 (.int k) [v0, .ow 1 t.1, v2, v3, v4, v5, .no, v7, v8, v9, v10, v11, .no] = .nx [v0, .ow 1 t'.1, w2, w3, w4, w5, .no, w7, w8, w9, w10, w11, .no] := by
  have i2 := idx2i 9 16 (dv t 2) (dv_lo t 2) (dv_hi t 2 (by decide))
  obtain ⟨M, hM⟩ : ∃ M : Int, (if dv t 2 = 0 then 9 else 16) = M := ⟨_, rfl⟩
  have hM2 : 0 ≤ M ∧ M ≤ 30 := by rw [← hM]; split <;> omega
  rw [hM] at i2
  obtain ⟨ms, sh, ps, t1, gm, gs, gp, hl, e1⟩ := s_setting n (dt t 2) 5 M (by decide) (by decide) hM2.1 hM2.2
  obtain ⟨u4, e2⟩ := t_due n ms sh gs (sh.map (·.1)) ps gp hl v0 (.ow 1 t1.1) (.bo 0 (.int k)) v4 v5 .no v7 v8 (.bo 0 (encMks ms))
  have e3 := s_lacks (n + 1) ms sh gs (sh.map (·.1)) ps gp hl 0 (.inl rfl)
  have gp' : ∀ p ∈ ps.reverse, GPg ms (sh.map (·.1)) p := fun p m => gp p (by simpa using m)
  have e4 := s_lacks (n + 1) ms sh gs (sh.map (·.1)) ps.reverse gp' (by simpa using hl) 1 (.inr rfl)
  have hrev : lacksOf sh ps.reverse = lacksOf sh ps := by unfold lacksOf; rw [allM_perm (List.reverse_perm ps)]
  rw [hrev, List.map_reverse] at e4
  have so := sortOk_lk (allM sh ps)
  have sk : sortD ((allM sh ps).map encLk) = (lacksOf sh ps).map encLk := sort_lk (allM sh ps)
  have q1 := ne_lks (lacksOf sh ps)
  have hlen := lacks_len n ms sh gs (sh.map (·.1)) ps gp hl
  have hb : (lacksOf sh ps).length < big := by unfold big; omega
  have hb2 : (lacksOf sh ps).length ≤ 16777216 := by omega
  have hz := s_zz (evDef tb (n + 5)) (lacksOf sh ps) (lacks_hs sh ps hl) v0 (.ow 1 t1.1) (.bo 0 (.int k)) (.ow 1 (.lst ((lacksOf sh ps).map encLk))) u4 v7 v8 (.bo 0 (encMks ms)) (.bo 0 (encSh sh)) (.bo 0 (.lst (ps.map encPg))) .no
  have f5 : ∀ (l : List D), Ti.updD 3 (.lst l) [] (Ti.appF (.ow 0 (.int 7))) = if l.length < big then some (.lst (l ++ [.int 7])) else none := fun l => by simp [Ti.updD, Ti.appF]
  have f1 : ∀ a3 a5 : Slot, lcGo (lcF (evDef tb (n + 5)) [] 1 e_law_1 (.nm 12) c_law_1) (ps.map encPg) [v0, .ow 1 t1.1, .bo 0 (.int k), a3, u4, a5, .no, v7, v8, .bo 0 (encMks ms), .bo 0 (encSh sh), .bo 0 (.lst (ps.map encPg)), .no] = .ok ((ps.filterMap lentH).map D.str) [v0, .ow 1 t1.1, .bo 0 (.int k), a3, u4, a5, .no, v7, v8, .bo 0 (encMks ms), .bo 0 (encSh sh), .bo 0 (.lst (ps.map encPg)), .no] := fun a3 a5 => by
    rw [lcGo_some (g := fun p => (lentH p).map D.str) fun p _ => t_lent (n + 5) p _ _ _ _ _ _ _ _ _ _ _ _, List.map_filterMap]
  have hpl : ps.length ≤ 16777216 := by omega
  have fl : (ps.filterMap lentH).length ≤ 500 := Nat.le_trans (List.length_filterMap_le _ _) hl
  have sl := slc_strs (ps.filterMap lentH)
  obtain ⟨B, hB⟩ : ∃ B, (ps.filterMap lentH).take (min 4 (ps.filterMap lentH).length) = B := ⟨_, rfl⟩
  rw [hB] at sl
  have hBl : B.length ≤ 4 := by
    rw [← hB, List.length_take]
    omega
  obtain ⟨H, hH⟩ : ∃ H : List String, ["ann", "bo", "cy", "dan", "zz", ""] ++ B = H := ⟨_, rfl⟩
  have bh : binD .add (.lst [.str "ann", .str "bo", .str "cy", .str "dan", .str "zz", .str ""]) (.lst (B.map D.str)) = some (1, .lst (H.map D.str)) := by
    rw [bin_addl, if_pos, ← hH, List.map_append]
    · rfl
    · rw [List.length_map]
      unfold big
      show 6 + _ ≤ _
      omega
  obtain ⟨Z, hZ⟩ : ∃ Z, ((lacksOf sh ps).map zzL).map encLk = Z := ⟨_, rfl⟩
  have hZl : Z.length < big := by
    rw [← hZ, List.length_map, List.length_map]
    exact hb
  rw [hZ] at hz
  obtain ⟨s1, e6, w8, rfl⟩ := forGo_pre (h := D.str) (f := forF (evDef tb (n + 5)) [] 1000000 (.nm 8) b_law_3)
    (P := fun a s => ∃ w8 : Slot, s = [v0, .ow 1 t1.1, .bo 0 (.int k), .ow 1 (.lst ((lacksOf sh ps).map encLk)), u4, .ow 3 (.lst (Z ++ [.int 7])), .no, .bo 0 (.lst (H.map D.str)), w8, .bo 0 (encMks ms), .bo 0 (encSh sh), .bo 0 (.lst (ps.map encPg)), .no])
    H [] [v0, .ow 1 t1.1, .bo 0 (.int k), .ow 1 (.lst ((lacksOf sh ps).map encLk)), u4, .ow 3 (.lst (Z ++ [.int 7])), .no, .bo 0 (.lst (H.map D.str)), v8, .bo 0 (encMks ms), .bo 0 (encSh sh), .bo 0 (.lst (ps.map encPg)), .no] ⟨v8, rfl⟩ (by
      rintro a h r hab s ⟨w8, rfl⟩
      exact ⟨_, .inl (t_house n ms sh gs (sh.map (·.1)) ps gp hl h _ _ _ _ _ _ _ _ _), _, rfl⟩)
  refine ⟨t1, .bo 0 (.int k), .ow 1 (.lst ((lacksOf sh ps).map encLk)), u4, .ow 3 (.lst (Z ++ [.int 7])), .bo 0 (.lst (H.map D.str)), w8, .bo 0 (encMks ms), .bo 0 (encSh sh), .bo 0 (.lst (ps.map encPg)), ?_⟩
  rw [forF]
  simp [-Ev.bind, -Ev.of, rsOf, Def.rest, ioIdx, Ti.Arg.slot, place, E.muts, E.mutss, E.mutso, chg, updD, Ti.putF, Ti.appF, Ti.extF, Ti.insF, Ti.popF, okTg, S.muts, S.mutss, ending, outsOf, wn, Tg.put, Tg.puts, Tg.slots, Tg.slotss, noOw, wipeS, restore, isTy, itemsOf, clash, cE_lc, cS_for, -idx_l, -bin_addl, -Ti.updD, -Ti.appF, i2, e1, e2, e3, e4, so, sk, q1, hb, hb2, hz, hZl, f5, f1, hpl, sl, bh, e6]
theorem plain_k13 (ns : List Int) : rsOf (evDef tb 20) d_law [.pv 0 (.scr (ns.map D.int))] = .ok 0 (.bl true) [] := by
  have hr : rngD [.int 5] = some ((List.range 5).map fun (k : Nat) => .int k) := rng1 (by decide) (by decide)
  obtain ⟨s1, e1, t1, w2, w3, w4, w5, w7, w8, w9, w10, w11, rfl⟩ := forGo_pre (h := fun (k : Nat) => .int k) (f := forF (evDef tb 20) [] 1000000 (.nm 2) b_law_4)
    (P := fun a s => ∃ (t : T) (w2 w3 w4 w5 w7 w8 w9 w10 w11 : Slot), s = [.bo 0 (.scr (ns.map D.int)), .ow 1 t.1, w2, w3, w4, w5, .no, w7, w8, w9, w10, w11, .no])
    (List.range 5) [] [.bo 0 (.scr (ns.map D.int)), .ow 1 (.lst [.lst (ns.map D.int), .int 0, .int 0]), .no, .no, .no, .no, .no, .no, .no, .no, .no, .no, .no]
    ⟨⟨_, ns, 0, 0, rfl⟩, .no, .no, .no, .no, .no, .no, .no, .no, .no, rfl⟩ (by
      rintro a k b hab s ⟨t, w2, w3, w4, w5, w7, w8, w9, w10, w11, rfl⟩
      obtain ⟨t', u2, u3, u4, u5, u7, u8, u9, u10, u11, e⟩ := t_turn 15 k t (.bo 0 (.scr (ns.map D.int))) w2 w3 w4 w5 .no w7 w8 w9 w10 w11 (.inl rfl)
      exact ⟨_, .inl e, t', u2, u3, u4, u5, u7, u8, u9, u10, u11, rfl⟩)
  simp [-Ev.bind, -Ev.of, rsOf, Def.rest, ioIdx, Ti.Arg.slot, place, E.muts, E.mutss, E.mutso, chg, updD, Ti.putF, Ti.appF, Ti.extF, Ti.insF, Ti.popF, okTg, S.muts, S.mutss, ending, outsOf, wn, Tg.put, Tg.puts, Tg.slots, Tg.slotss, noOw, wipeS, restore, isTy, itemsOf, clash, cE_lc, cS_for, d_law, hr, e1]
end
end Law
namespace Law
open PySem L2 Ti
theorem plain : Plain fs 20 f_law := fun ns _ _ => plain_k13 ns
theorem all_mk {l : PySem.W.OpenLaw} {w : World} {K : PySem.W.Frag} {h : Heap} {mg : Str → Option Value} {fa p0 p1 p2 p3 p4 p5 p6 p7 p8 p9 p10 p11 p12 p13 p14 p15 p16 p17 p18 p19 p20 p21 C0 : Addr} (X : K.In h) (G : h.Ns mainGlobals mg) (hfa : mg "law" = some (.ref fa))
    {od0 od1 od2 od3 od4 od5 od6 od7 od8 od9 od10 od11 od12 od13 od14 od15 od16 od17 od18 od19 od20 od21 an0 an1 an2 an3 an4 an5 an6 an7 an8 an9 an10 an11 an12 an13 an14 an15 an16 an17 an18 an19 an20 an21 : Option Addr} {sl0 sl1 sl2 sl3 sl4 sl5 sl6 sl7 sl8 sl9 sl10 sl11 sl12 sl13 sl14 sl15 sl16 sl17 sl18 sl19 sl20 sl21 : Array (Option Value)} {oc0 oc1 oc2 oc3 oc4 oc5 oc6 oc7 oc8 oc9 oc10 oc11 oc12 oc13 oc14 oc15 oc16 oc17 oc18 oc19 oc20 oc21 kv0 kv1 kv2 kv3 kv4 kv5 kv6 kv7 kv8 kv9 kv10 kv11 kv12 kv13 kv14 kv15 kv16 kv17 kv18 kv19 kv20 kv21 dc0 dc1 dc2 dc3 dc4 dc5 dc6 dc7 dc8 dc9 dc10 dc11 dc12 dc13 dc14 dc15 dc16 dc17 dc18 dc19 dc20 dc21 pm0 pm1 pm2 pm3 pm4 pm5 pm6 pm7 pm8 pm9 pm10 pm11 pm12 pm13 pm14 pm15 pm16 pm17 pm18 pm19 pm20 pm21 cd0 cd1 cd2 cd3 cd4 cd5 cd6 cd7 cd8 cd9 cd10 cd11 cd12 cd13 cd14 cd15 cd16 cd17 cd18 cd19 cd20 cd21 ct0 ct1 ct2 ct3 ct4 ct5 ct6 ct7 ct8 ct9 ct10 ct11 ct12 ct13 ct14 ct15 ct16 ct17 ct18 ct19 ct20 ct21 : Value} {tkg0_0 : Tok} {tkg0_1 : Tok} {tkg0_2 : Tok} {Ag0 : Addr} {ng0 : Nat} {sg0 : Array (Option Value)}
    (a0 : PySem.W.findIn K (.ref C0) "__init__" = some (some (.ref p0))) (i0 : PySem.W.isFn K (.ref p0) = true) (l0 : K.lookup p0 = some ⟨oc0, od0, .func (PySem.W.fnOf "__init__" "Life.__init__" (C8.fnArgs (cst 6 0)) (C8.fnBody (cst 6 0)) (C8.fnScope (cst 6 0)) .none kv0 dc0 pm0 an0 cd0 ct0), sl0⟩) (c0 : PySem.W.codeIn K cd0 "Life.__init__" = true) (k0 : PySem.W.keepIn K (.ref p0) = true)
    (a1 : PySem.W.findIn K (.ref C0) "fault_of" = some (some (.ref p1))) (i1 : PySem.W.isFn K (.ref p1) = true) (l1 : K.lookup p1 = some ⟨oc1, od1, .func (PySem.W.fnOf "fault_of" "Life.fault_of" (C8.fnArgs (cst 6 1)) (C8.fnBody (cst 6 1)) (C8.fnScope (cst 6 1)) .none kv1 dc1 pm1 an1 cd1 ct1), sl1⟩) (c1 : PySem.W.codeIn K cd1 "Life.fault_of" = true) (k1 : PySem.W.keepIn K (.ref p1) = true)
    (a2 : PySem.W.findIn K (.ref C0) "go" = some (some (.ref p2))) (i2 : PySem.W.isFn K (.ref p2) = true) (l2 : K.lookup p2 = some ⟨oc2, od2, .func (PySem.W.fnOf "go" "Life.go" (C8.fnArgs (cst 6 2)) (C8.fnBody (cst 6 2)) (C8.fnScope (cst 6 2)) .none kv2 dc2 pm2 an2 cd2 ct2), sl2⟩) (c2 : PySem.W.codeIn K cd2 "Life.go" = true) (k2 : PySem.W.keepIn K (.ref p2) = true)
    (a3 : PySem.W.findIn K (.ref C0) "count" = some (some (.ref p3))) (i3 : PySem.W.isFn K (.ref p3) = true) (l3 : K.lookup p3 = some ⟨oc3, od3, .func (PySem.W.fnOf "count" "Life.count" (C8.fnArgs (cst 6 3)) (C8.fnBody (cst 6 3)) (C8.fnScope (cst 6 3)) .none kv3 dc3 pm3 an3 cd3 ct3), sl3⟩) (c3 : PySem.W.codeIn K cd3 "Life.count" = true) (k3 : PySem.W.keepIn K (.ref p3) = true)
    (a4 : PySem.W.nsIn K mainGlobals "life_of" = some (some (.ref p4))) (l4 : K.lookup p4 = some ⟨oc4, od4, .func (PySem.W.fnOf "life_of" "life_of" (C8.fnArgs (top 7)) (C8.fnBody (top 7)) (C8.fnScope (top 7)) .none kv4 dc4 pm4 an4 cd4 ct4), sl4⟩) (c4 : PySem.W.codeIn K cd4 "life_of" = true) (k4 : PySem.W.keepIn K (.ref p4) = true)
    (a5 : PySem.W.nsIn K mainGlobals "lacks" = some (some (.ref p5))) (l5 : K.lookup p5 = some ⟨oc5, od5, .func (PySem.W.fnOf "lacks" "lacks" (C8.fnArgs (top 9)) (C8.fnBody (top 9)) (C8.fnScope (top 9)) .none kv5 dc5 pm5 an5 cd5 ct5), sl5⟩) (c5 : PySem.W.codeIn K cd5 "lacks" = true) (k5 : PySem.W.keepIn K (.ref p5) = true)
    (a6 : PySem.W.nsIn K mainGlobals "surely" = some (some (.ref p6))) (l6 : K.lookup p6 = some ⟨oc6, od6, .func (PySem.W.fnOf "surely" "surely" (C8.fnArgs (top 10)) (C8.fnBody (top 10)) (C8.fnScope (top 10)) .none kv6 dc6 pm6 an6 cd6 ct6), sl6⟩) (c6 : PySem.W.codeIn K cd6 "surely" = true) (k6 : PySem.W.keepIn K (.ref p6) = true)
    (a7 : PySem.W.nsIn K mainGlobals "perhaps" = some (some (.ref p7))) (l7 : K.lookup p7 = some ⟨oc7, od7, .func (PySem.W.fnOf "perhaps" "perhaps" (C8.fnArgs (top 11)) (C8.fnBody (top 11)) (C8.fnScope (top 11)) .none kv7 dc7 pm7 an7 cd7 ct7), sl7⟩) (c7 : PySem.W.codeIn K cd7 "perhaps" = true) (k7 : PySem.W.keepIn K (.ref p7) = true)
    (a8 : PySem.W.nsIn K mainGlobals "_law_draw" = some (some (.ref p8))) (l8 : K.lookup p8 = some ⟨oc8, od8, .func (PySem.W.fnOf "_law_draw" "_law_draw" (C8.fnArgs (top 13)) (C8.fnBody (top 13)) (C8.fnScope (top 13)) .none kv8 dc8 pm8 an8 cd8 ct8), sl8⟩) (c8 : PySem.W.codeIn K cd8 "_law_draw" = true) (k8 : PySem.W.keepIn K (.ref p8) = true)
    (a9 : PySem.W.nsIn K mainGlobals "_law_any_order" = some (some (.ref p9))) (l9 : K.lookup p9 = some ⟨oc9, od9, .func (PySem.W.fnOf "_law_any_order" "_law_any_order" (C8.fnArgs (top 14)) (C8.fnBody (top 14)) (C8.fnScope (top 14)) .none kv9 dc9 pm9 an9 cd9 ct9), sl9⟩) (c9 : PySem.W.codeIn K cd9 "_law_any_order" = true) (k9 : PySem.W.keepIn K (.ref p9) = true)
    (a10 : PySem.W.nsIn K mainGlobals "_law_a_name" = some (some (.ref p10))) (l10 : K.lookup p10 = some ⟨oc10, od10, .func (PySem.W.fnOf "_law_a_name" "_law_a_name" (C8.fnArgs (top 15)) (C8.fnBody (top 15)) (C8.fnScope (top 15)) .none kv10 dc10 pm10 an10 cd10 ct10), sl10⟩) (c10 : PySem.W.codeIn K cd10 "_law_a_name" = true) (k10 : PySem.W.keepIn K (.ref p10) = true)
    (a11 : PySem.W.nsIn K mainGlobals "_law_a_kind" = some (some (.ref p11))) (l11 : K.lookup p11 = some ⟨oc11, od11, .func (PySem.W.fnOf "_law_a_kind" "_law_a_kind" (C8.fnArgs (top 16)) (C8.fnBody (top 16)) (C8.fnScope (top 16)) .none kv11 dc11 pm11 an11 cd11 ct11), sl11⟩) (c11 : PySem.W.codeIn K cd11 "_law_a_kind" = true) (k11 : PySem.W.keepIn K (.ref p11) = true)
    (a12 : PySem.W.nsIn K mainGlobals "_law_a_make" = some (some (.ref p12))) (l12 : K.lookup p12 = some ⟨oc12, od12, .func (PySem.W.fnOf "_law_a_make" "_law_a_make" (C8.fnArgs (top 17)) (C8.fnBody (top 17)) (C8.fnScope (top 17)) .none kv12 dc12 pm12 an12 cd12 ct12), sl12⟩) (c12 : PySem.W.codeIn K cd12 "_law_a_make" = true) (k12 : PySem.W.keepIn K (.ref p12) = true)
    (a13 : PySem.W.nsIn K mainGlobals "_law_a_makes" = some (some (.ref p13))) (l13 : K.lookup p13 = some ⟨oc13, od13, .func (PySem.W.fnOf "_law_a_makes" "_law_a_makes" (C8.fnArgs (top 18)) (C8.fnBody (top 18)) (C8.fnScope (top 18)) .none kv13 dc13 pm13 an13 cd13 ct13), sl13⟩) (c13 : PySem.W.codeIn K cd13 "_law_a_makes" = true) (k13 : PySem.W.keepIn K (.ref p13) = true)
    (a14 : PySem.W.nsIn K mainGlobals "_law_some_contents" = some (some (.ref p14))) (l14 : K.lookup p14 = some ⟨oc14, od14, .func (PySem.W.fnOf "_law_some_contents" "_law_some_contents" (C8.fnArgs (top 19)) (C8.fnBody (top 19)) (C8.fnScope (top 19)) .none kv14 dc14 pm14 an14 cd14 ct14), sl14⟩) (c14 : PySem.W.codeIn K cd14 "_law_some_contents" = true) (k14 : PySem.W.keepIn K (.ref p14) = true)
    (a15 : PySem.W.nsIn K mainGlobals "_law_a_shelf" = some (some (.ref p15))) (l15 : K.lookup p15 = some ⟨oc15, od15, .func (PySem.W.fnOf "_law_a_shelf" "_law_a_shelf" (C8.fnArgs (top 20)) (C8.fnBody (top 20)) (C8.fnScope (top 20)) .none kv15 dc15 pm15 an15 cd15 ct15), sl15⟩) (c15 : PySem.W.codeIn K cd15 "_law_a_shelf" = true) (k15 : PySem.W.keepIn K (.ref p15) = true)
    (a16 : PySem.W.nsIn K mainGlobals "_law_make_of" = some (some (.ref p16))) (l16 : K.lookup p16 = some ⟨oc16, od16, .func (PySem.W.fnOf "_law_make_of" "_law_make_of" (C8.fnArgs (top 21)) (C8.fnBody (top 21)) (C8.fnScope (top 21)) .none kv16 dc16 pm16 an16 cd16 ct16), sl16⟩) (c16 : PySem.W.codeIn K cd16 "_law_make_of" = true) (k16 : PySem.W.keepIn K (.ref p16) = true)
    (a17 : PySem.W.nsIn K mainGlobals "_law_pages" = some (some (.ref p17))) (l17 : K.lookup p17 = some ⟨oc17, od17, .func (PySem.W.fnOf "_law_pages" "_law_pages" (C8.fnArgs (top 22)) (C8.fnBody (top 22)) (C8.fnScope (top 22)) .none kv17 dc17 pm17 an17 cd17 ct17), sl17⟩) (c17 : PySem.W.codeIn K cd17 "_law_pages" = true) (k17 : PySem.W.keepIn K (.ref p17) = true)
    (a18 : PySem.W.nsIn K mainGlobals "_law_fewer" = some (some (.ref p18))) (l18 : K.lookup p18 = some ⟨oc18, od18, .func (PySem.W.fnOf "_law_fewer" "_law_fewer" (C8.fnArgs (top 23)) (C8.fnBody (top 23)) (C8.fnScope (top 23)) .none kv18 dc18 pm18 an18 cd18 ct18), sl18⟩) (c18 : PySem.W.codeIn K cd18 "_law_fewer" = true) (k18 : PySem.W.keepIn K (.ref p18) = true)
    (a19 : PySem.W.nsIn K mainGlobals "_law_setting" = some (some (.ref p19))) (l19 : K.lookup p19 = some ⟨oc19, od19, .func (PySem.W.fnOf "_law_setting" "_law_setting" (C8.fnArgs (top 24)) (C8.fnBody (top 24)) (C8.fnScope (top 24)) .none kv19 dc19 pm19 an19 cd19 ct19), sl19⟩) (c19 : PySem.W.codeIn K cd19 "_law_setting" = true) (k19 : PySem.W.keepIn K (.ref p19) = true)
    (a20 : PySem.W.nsIn K mainGlobals "_law_gone" = some (some (.ref p20))) (l20 : K.lookup p20 = some ⟨oc20, od20, .func (PySem.W.fnOf "_law_gone" "_law_gone" (C8.fnArgs (top 25)) (C8.fnBody (top 25)) (C8.fnScope (top 25)) .none kv20 dc20 pm20 an20 cd20 ct20), sl20⟩) (c20 : PySem.W.codeIn K cd20 "_law_gone" = true) (k20 : PySem.W.keepIn K (.ref p20) = true)
    (a21 : PySem.W.nsIn K mainGlobals "law" = some (some (.ref p21))) (l21 : K.lookup p21 = some ⟨oc21, od21, .func (PySem.W.fnOf "law" "law" (C8.fnArgs (top 26)) (C8.fnBody (top 26)) (C8.fnScope (top 26)) .none kv21 dc21 pm21 an21 cd21 ct21), sl21⟩) (c21 : PySem.W.codeIn K cd21 "law" = true) (k21 : PySem.W.keepIn K (.ref p21) = true)
    (ca0 : PySem.W.nsIn K mainGlobals "Life" = some (some (.ref C0))) (cb0 : PySem.W.plainGet K C0 Str.empty = true) (cc0 : PySem.W.hasDictIn K C0 = true) (ce0 : PySem.W.plainOver K C0 = true) (cf0 : PySem.W.findIn K (.ref C0) "__setattr__" = some (some (.builtin "object.__setattr__"))) (cg0 : PySem.W.makesIn K C0 = true) (ch0 : PySem.W.keepIn K (.ref C0) = true)
    (cn0_0 : PySem.W.findIn K (.ref C0) "contents" = some none)
    (cn0_1 : PySem.W.findIn K (.ref C0) "house" = some none)
    (cn0_2 : PySem.W.findIn K (.ref C0) "since" = some none)
    (cn0_3 : PySem.W.findIn K (.ref C0) "wrong" = some none)
    (cn0_4 : PySem.W.findIn K (.ref C0) "missing" = some none)
    (cn0_5 : PySem.W.findIn K (.ref C0) "lendings" = some none)
    (hg0 : K.lookup Ag0 = some ⟨.type "tuple", none, .seq #[.str "back" tkg0_0, .str "counted" tkg0_1, .str "lent" tkg0_2] ng0, sg0⟩)
    (gg0 : PySem.W.nsIn K mainGlobals "WORDS" = some (some (.ref Ag0)))
    (zz0 : PySem.W.nsIn K mainGlobals "len" = some none)
    (zz1 : PySem.W.nsIn K mainGlobals "all" = some none)
    (zz2 : PySem.W.nsIn K mainGlobals "sum" = some none)
    (zz3 : PySem.W.nsIn K mainGlobals "sorted" = some none)
    (zz4 : PySem.W.nsIn K mainGlobals "list" = some none)
    (zz5 : PySem.W.nsIn K mainGlobals "tuple" = some none)
    (zz6 : PySem.W.nsIn K mainGlobals "dict" = some none)
    (zz7 : PySem.W.nsIn K mainGlobals "min" = some none)
    (zz8 : PySem.W.nsIn K mainGlobals "max" = some none)
    (zz9 : PySem.W.nsIn K mainGlobals "isinstance" = some none)
    (zz10 : PySem.W.nsIn K mainGlobals "range" = some none)
    (zz11 : PySem.W.nsIn K mainGlobals "int" = some none)
    (zz12 : PySem.W.nsIn K mainGlobals "str" = some none)
    (zz13 : PySem.W.nsIn K mainGlobals "bool" = some none)
    (zz14 : PySem.W.nsIn K mainGlobals "set" = some none)
    (zz15 : PySem.W.nsIn K mainGlobals "enumerate" = some none)
    : ∃ fd : FuncData, (∀ (s : Shared) (v : Value), BindsTo s fd ⟨[v], []⟩ [("script", v)]) ∧ ∀ base : Heap, K.In base → base.Ns mainGlobals mg → FnOk l.prog w K mg base C8.CX0 (2 * 20 + 2) fa fd ["script"] (spLaw K) := by
  letI : PWc := ⟨some w⟩
  have e : p21 = fa := by have e := hfa.symm.trans (PySem.W.mg_of X G a21); cases e; rfl
  subst e
  have F0 : C8.Fun K "__init__" "Life.__init__" (cst 6 0) p0 _ := ⟨⟨_, _, _, _, _, _, _, _, _, _, rfl, l0, c0⟩⟩
  have ic0 : InCl K mg "Life" "__init__" p0 := ⟨C0, ca0, ⟨cb0, cc0, ce0, cf0⟩, ⟨a0, i0, k0⟩, fun _ => ⟨PySem.W.mg_of X G ca0, ⟨cg0, a0, i0, ch0⟩⟩⟩
  have q0 : FnAt K mg f_Life___init__ := FnAt.of0 F0 (C8.Fun.binds F0 rfl fun _ _ _ _ _ _ us hl => match us, hl with | [_, _], _ => rfl) rfl (fun e => nomatch e) k0 (fun _ _ e => by cases e; exact ic0)
  have F1 : C8.Fun K "fault_of" "Life.fault_of" (cst 6 1) p1 _ := ⟨⟨_, _, _, _, _, _, _, _, _, _, rfl, l1, c1⟩⟩
  have ic1 : InCl K mg "Life" "fault_of" p1 := ⟨C0, ca0, ⟨cb0, cc0, ce0, cf0⟩, ⟨a1, i1, k1⟩, fun e => absurd e (by decide)⟩
  have q1 : FnAt K mg f_Life_fault_of := FnAt.of0 F1 (C8.Fun.binds F1 rfl fun _ _ _ _ _ _ us hl => match us, hl with | [_, _], _ => rfl) rfl (fun e => nomatch e) k1 (fun _ _ e => by cases e; exact ic1)
  have F2 : C8.Fun K "go" "Life.go" (cst 6 2) p2 _ := ⟨⟨_, _, _, _, _, _, _, _, _, _, rfl, l2, c2⟩⟩
  have ic2 : InCl K mg "Life" "go" p2 := ⟨C0, ca0, ⟨cb0, cc0, ce0, cf0⟩, ⟨a2, i2, k2⟩, fun e => absurd e (by decide)⟩
  have q2 : FnAt K mg f_Life_go := FnAt.of0 F2 (C8.Fun.binds F2 rfl fun _ _ _ _ _ _ us hl => match us, hl with | [_, _], _ => rfl) rfl (fun e => nomatch e) k2 (fun _ _ e => by cases e; exact ic2)
  have F3 : C8.Fun K "count" "Life.count" (cst 6 3) p3 _ := ⟨⟨_, _, _, _, _, _, _, _, _, _, rfl, l3, c3⟩⟩
  have ic3 : InCl K mg "Life" "count" p3 := ⟨C0, ca0, ⟨cb0, cc0, ce0, cf0⟩, ⟨a3, i3, k3⟩, fun e => absurd e (by decide)⟩
  have q3 : FnAt K mg f_Life_count := FnAt.of0 F3 (C8.Fun.binds F3 rfl fun _ _ _ _ _ _ us hl => match us, hl with | [_, _], _ => rfl) rfl (fun e => nomatch e) k3 (fun _ _ e => by cases e; exact ic3)
  have F4 : C8.Fun K "life_of" "life_of" (top 7) p4 _ := ⟨⟨_, _, _, _, _, _, _, _, _, _, rfl, l4, c4⟩⟩
  have q4 : FnAt K mg f_life_of := FnAt.of0 F4 (C8.Fun.binds F4 rfl fun _ _ _ _ _ _ us hl => match us, hl with | [_, _, _, _], _ => rfl) rfl (fun _ => PySem.W.mg_of X G a4) k4 (fun _ _ e => nomatch e)
  have F5 : C8.Fun K "lacks" "lacks" (top 9) p5 _ := ⟨⟨_, _, _, _, _, _, _, _, _, _, rfl, l5, c5⟩⟩
  have q5 : FnAt K mg f_lacks := FnAt.of0 F5 (C8.Fun.binds F5 rfl fun _ _ _ _ _ _ us hl => match us, hl with | [_, _], _ => rfl) rfl (fun _ => PySem.W.mg_of X G a5) k5 (fun _ _ e => nomatch e)
  have F6 : C8.Fun K "surely" "surely" (top 10) p6 _ := ⟨⟨_, _, _, _, _, _, _, _, _, _, rfl, l6, c6⟩⟩
  have q6 : FnAt K mg f_surely := FnAt.of0 F6 (C8.Fun.binds F6 rfl fun _ _ _ _ _ _ us hl => match us, hl with | [_, _, _], _ => rfl) rfl (fun _ => PySem.W.mg_of X G a6) k6 (fun _ _ e => nomatch e)
  have F7 : C8.Fun K "perhaps" "perhaps" (top 11) p7 _ := ⟨⟨_, _, _, _, _, _, _, _, _, _, rfl, l7, c7⟩⟩
  have q7 : FnAt K mg f_perhaps := FnAt.of0 F7 (C8.Fun.binds F7 rfl fun _ _ _ _ _ _ us hl => match us, hl with | [_, _, _], _ => rfl) rfl (fun _ => PySem.W.mg_of X G a7) k7 (fun _ _ e => nomatch e)
  have F8 : C8.Fun K "_law_draw" "_law_draw" (top 13) p8 _ := ⟨⟨_, _, _, _, _, _, _, _, _, _, rfl, l8, c8⟩⟩
  have q8 : FnAt K mg f__law_draw := FnAt.of0 F8 (C8.Fun.binds F8 rfl fun _ _ _ _ _ _ us hl => match us, hl with | [_, _], _ => rfl) rfl (fun _ => PySem.W.mg_of X G a8) k8 (fun _ _ e => nomatch e)
  have F9 : C8.Fun K "_law_any_order" "_law_any_order" (top 14) p9 _ := ⟨⟨_, _, _, _, _, _, _, _, _, _, rfl, l9, c9⟩⟩
  have q9 : FnAt K mg f__law_any_order := FnAt.of0 F9 (C8.Fun.binds F9 rfl fun _ _ _ _ _ _ us hl => match us, hl with | [_, _], _ => rfl) rfl (fun _ => PySem.W.mg_of X G a9) k9 (fun _ _ e => nomatch e)
  have F10 : C8.Fun K "_law_a_name" "_law_a_name" (top 15) p10 _ := ⟨⟨_, _, _, _, _, _, _, _, _, _, rfl, l10, c10⟩⟩
  have q10 : FnAt K mg f__law_a_name := FnAt.of0 F10 (C8.Fun.binds F10 rfl fun _ _ _ _ _ _ us hl => match us, hl with | [_], _ => rfl) rfl (fun _ => PySem.W.mg_of X G a10) k10 (fun _ _ e => nomatch e)
  have F11 : C8.Fun K "_law_a_kind" "_law_a_kind" (top 16) p11 _ := ⟨⟨_, _, _, _, _, _, _, _, _, _, rfl, l11, c11⟩⟩
  have q11 : FnAt K mg f__law_a_kind := FnAt.of0 F11 (C8.Fun.binds F11 rfl fun _ _ _ _ _ _ us hl => match us, hl with | [_], _ => rfl) rfl (fun _ => PySem.W.mg_of X G a11) k11 (fun _ _ e => nomatch e)
  have F12 : C8.Fun K "_law_a_make" "_law_a_make" (top 17) p12 _ := ⟨⟨_, _, _, _, _, _, _, _, _, _, rfl, l12, c12⟩⟩
  have q12 : FnAt K mg f__law_a_make := FnAt.of0 F12 (C8.Fun.binds F12 rfl fun _ _ _ _ _ _ us hl => match us, hl with | [_, _, _], _ => rfl) rfl (fun _ => PySem.W.mg_of X G a12) k12 (fun _ _ e => nomatch e)
  have F13 : C8.Fun K "_law_a_makes" "_law_a_makes" (top 18) p13 _ := ⟨⟨_, _, _, _, _, _, _, _, _, _, rfl, l13, c13⟩⟩
  have q13 : FnAt K mg f__law_a_makes := FnAt.of0 F13 (C8.Fun.binds F13 rfl fun _ _ _ _ _ _ us hl => match us, hl with | [_], _ => rfl) rfl (fun _ => PySem.W.mg_of X G a13) k13 (fun _ _ e => nomatch e)
  have F14 : C8.Fun K "_law_some_contents" "_law_some_contents" (top 19) p14 _ := ⟨⟨_, _, _, _, _, _, _, _, _, _, rfl, l14, c14⟩⟩
  have q14 : FnAt K mg f__law_some_contents := FnAt.of0 F14 (C8.Fun.binds F14 rfl fun _ _ _ _ _ _ us hl => match us, hl with | [_, _], _ => rfl) rfl (fun _ => PySem.W.mg_of X G a14) k14 (fun _ _ e => nomatch e)
  have F15 : C8.Fun K "_law_a_shelf" "_law_a_shelf" (top 20) p15 _ := ⟨⟨_, _, _, _, _, _, _, _, _, _, rfl, l15, c15⟩⟩
  have q15 : FnAt K mg f__law_a_shelf := FnAt.of0 F15 (C8.Fun.binds F15 rfl fun _ _ _ _ _ _ us hl => match us, hl with | [_, _, _], _ => rfl) rfl (fun _ => PySem.W.mg_of X G a15) k15 (fun _ _ e => nomatch e)
  have F16 : C8.Fun K "_law_make_of" "_law_make_of" (top 21) p16 _ := ⟨⟨_, _, _, _, _, _, _, _, _, _, rfl, l16, c16⟩⟩
  have q16 : FnAt K mg f__law_make_of := FnAt.of0 F16 (C8.Fun.binds F16 rfl fun _ _ _ _ _ _ us hl => match us, hl with | [_, _], _ => rfl) rfl (fun _ => PySem.W.mg_of X G a16) k16 (fun _ _ e => nomatch e)
  have F17 : C8.Fun K "_law_pages" "_law_pages" (top 22) p17 _ := ⟨⟨_, _, _, _, _, _, _, _, _, _, rfl, l17, c17⟩⟩
  have q17 : FnAt K mg f__law_pages := FnAt.of0 F17 (C8.Fun.binds F17 rfl fun _ _ _ _ _ _ us hl => match us, hl with | [_, _, _, _], _ => rfl) rfl (fun _ => PySem.W.mg_of X G a17) k17 (fun _ _ e => nomatch e)
  have F18 : C8.Fun K "_law_fewer" "_law_fewer" (top 23) p18 _ := ⟨⟨_, _, _, _, _, _, _, _, _, _, rfl, l18, c18⟩⟩
  have q18 : FnAt K mg f__law_fewer := FnAt.of0 F18 (C8.Fun.binds F18 rfl fun _ _ _ _ _ _ us hl => match us, hl with | [_, _], _ => rfl) rfl (fun _ => PySem.W.mg_of X G a18) k18 (fun _ _ e => nomatch e)
  have F19 : C8.Fun K "_law_setting" "_law_setting" (top 24) p19 _ := ⟨⟨_, _, _, _, _, _, _, _, _, _, rfl, l19, c19⟩⟩
  have q19 : FnAt K mg f__law_setting := FnAt.of0 F19 (C8.Fun.binds F19 rfl fun _ _ _ _ _ _ us hl => match us, hl with | [_, _, _], _ => rfl) rfl (fun _ => PySem.W.mg_of X G a19) k19 (fun _ _ e => nomatch e)
  have F20 : C8.Fun K "_law_gone" "_law_gone" (top 25) p20 _ := ⟨⟨_, _, _, _, _, _, _, _, _, _, rfl, l20, c20⟩⟩
  have q20 : FnAt K mg f__law_gone := FnAt.of0 F20 (C8.Fun.binds F20 rfl fun _ _ _ _ _ _ us hl => match us, hl with | [_, _, _, _], _ => rfl) rfl (fun _ => PySem.W.mg_of X G a20) k20 (fun _ _ e => nomatch e)
  have F21 : C8.Fun K "law" "law" (top 26) p21 _ := ⟨⟨_, _, _, _, _, _, _, _, _, _, rfl, l21, c21⟩⟩
  have q21 : FnAt K mg f_law := FnAt.of0 F21 (C8.Fun.binds F21 rfl fun _ _ _ _ _ _ us hl => match us, hl with | [_], _ => rfl) rfl (fun _ => PySem.W.mg_of X G a21) k21 (fun _ _ e => nomatch e)
  have hF : ∀ i ∈ fs, FnAt K mg i := by
    intro i hi
    unfold fs at hi
    simp only [List.mem_cons, List.not_mem_nil, or_false] at hi
    rcases hi with rfl | rfl | rfl | rfl | rfl | rfl | rfl | rfl | rfl | rfl | rfl | rfl | rfl | rfl | rfl | rfl | rfl | rfl | rfl | rfl | rfl | rfl
    · exact q0
    · exact q1
    · exact q2
    · exact q3
    · exact q4
    · exact q5
    · exact q6
    · exact q7
    · exact q8
    · exact q9
    · exact q10
    · exact q11
    · exact q12
    · exact q13
    · exact q14
    · exact q15
    · exact q16
    · exact q17
    · exact q18
    · exact q19
    · exact q20
    · exact q21
  have E0 : Ti.Env K mg gt := by
    refine ⟨fun x d hx => ?_, fun x hx => ?_⟩
    · unfold gt at hx
      simp only [List.mem_cons, List.not_mem_nil, or_false, Prod.mk.injEq] at hx
      rcases hx with ⟨rfl, rfl⟩
      · exact ⟨.ref Ag0, _, PySem.W.mg_of X G gg0, rfl, fun _ _ => .tup (F := []) (vs := [.str (Str.ofString "back"), .str (Str.ofString "counted"), .str (Str.ofString "lent")]) (.inr ⟨_, _, _, hg0, rfl, rfl, rfl, (show 3 ≤ PySem.sizeLine from by decide), .cons (⟨_, rfl⟩) (.cons (⟨_, rfl⟩) (.cons (⟨_, rfl⟩) (.nil)))⟩) (.cons (F := []) (G := []) (.str _ (by decide)) (.cons (F := []) (G := []) (.str _ (by decide)) (.cons (F := []) (G := []) (.str _ (by decide)) (.nil))))⟩
    · unfold bltNames at hx
      simp only [List.mem_cons, List.not_mem_nil, or_false] at hx
      rcases hx with rfl | rfl | rfl | rfl | rfl | rfl | rfl | rfl | rfl | rfl | rfl | rfl | rfl | rfl | rfl | rfl
      · exact PySem.W.mg_none_of X G zz0
      · exact PySem.W.mg_none_of X G zz1
      · exact PySem.W.mg_none_of X G zz2
      · exact PySem.W.mg_none_of X G zz3
      · exact PySem.W.mg_none_of X G zz4
      · exact PySem.W.mg_none_of X G zz5
      · exact PySem.W.mg_none_of X G zz6
      · exact PySem.W.mg_none_of X G zz7
      · exact PySem.W.mg_none_of X G zz8
      · exact PySem.W.mg_none_of X G zz9
      · exact PySem.W.mg_none_of X G zz10
      · exact PySem.W.mg_none_of X G zz11
      · exact PySem.W.mg_none_of X G zz12
      · exact PySem.W.mg_none_of X G zz13
      · exact PySem.W.mg_none_of X G zz14
      · exact PySem.W.mg_none_of X G zz15
  have hfl : FlAt K fl := by
    intro c f hm C hC
    unfold fl at hm
    simp only [List.mem_cons, List.not_mem_nil, or_false, Prod.mk.injEq] at hm
    rcases hm with ⟨rfl, rfl⟩ | ⟨rfl, rfl⟩ | ⟨rfl, rfl⟩ | ⟨rfl, rfl⟩ | ⟨rfl, rfl⟩ | ⟨rfl, rfl⟩
    · obtain rfl := ClsAt.eq hC ca0; exact ⟨⟨cb0, cc0, ce0, cf0⟩, cn0_0⟩
    · obtain rfl := ClsAt.eq hC ca0; exact ⟨⟨cb0, cc0, ce0, cf0⟩, cn0_1⟩
    · obtain rfl := ClsAt.eq hC ca0; exact ⟨⟨cb0, cc0, ce0, cf0⟩, cn0_2⟩
    · obtain rfl := ClsAt.eq hC ca0; exact ⟨⟨cb0, cc0, ce0, cf0⟩, cn0_3⟩
    · obtain rfl := ClsAt.eq hC ca0; exact ⟨⟨cb0, cc0, ce0, cf0⟩, cn0_4⟩
    · obtain rfl := ClsAt.eq hC ca0; exact ⟨⟨cb0, cc0, ce0, cf0⟩, cn0_5⟩
  exact ⟨_, fun s v => .of_eq rfl, fun base _ _ => law_ok (i := f_law) rfl (List.all_eq_true.mp fs_ok) hF E0 hfl (by unfold fs; simp) rfl plain F21⟩
theorem walk {l : PySem.W.OpenLaw} {q : Program} {loose : List Str} {XP : (Str → Option Value) → Heap → Prop} {YP : World → Heap → Prop} {d : DefRec} {K : Params → PySem.W.Frag} (hn : l.most = some 63) (hdf : d.params.defaults = [])
    (hY : ∀ (w : World) (h : Heap), YP w h → (K w.params).In h)
    (F : ∀ (w : World) (mg : Str → Option Value) (fa : Addr) (h : Heap), (K w.params).In h → h.Ns mainGlobals mg → mg d.name = some (.ref fa) →
      ∃ fd : FuncData, (∀ (s : Shared) (u : Value), BindsTo s fd ⟨[u], []⟩ [("script", u)]) ∧ ∀ base : Heap, (K w.params).In base → base.Ns mainGlobals mg → FnOk l.prog w (K w.params) mg base C8.CX0 (2 * 20 + 2) fa fd ["script"] (spLaw (K w.params))) :
    PySem.W.WalkO q loose XP YP l.row.toRowW d [] (fun f vs => PySem.call f vs) :=
  L2.walk_ofB (n := 63) (k := 2 * 20 + 2) (x := "script") (CX := fun _ => C8.CX0) (sp := fun w => spLaw (K w.params)) hn (by decide) hdf ⟨rfl, by decide, by decide⟩ hY F (fun _ _ a ns hl hb hO hS => ⟨a, ns, rfl, hS, hl, hb, hO, fun _ => rfl⟩) fun _ _ _ _ _ z => z
end Law

open PySem PySem.W PyProof.Rows in
set_option maxRecDepth 100000 in
set_option maxHeartbeats 0 in
theorem PySem.Challenge.cw_toybags_k13_lacks_and_houses_holds : PySem.Challenge.rw_toybags_k13_lacks_and_houses.Holds := by
  w_on; o_law; k_head; (case hw => w_witness2)
  k_fill
  refine Law.walk (l := PySem.Challenge.rw_toybags_k13_lacks_and_houses) rfl rfl (fun w h Y => PySem.W.kIn_of Y) ?F
  case F =>
    intro w mg fa h KX G hmg
    refine' Law.all_mk KX G hmg ?a0 ?i0 ?l0 ?c0 ?k0 ?a1 ?i1 ?l1 ?c1 ?k1 ?a2 ?i2 ?l2 ?c2 ?k2 ?a3 ?i3 ?l3 ?c3 ?k3 ?a4 ?l4 ?c4 ?k4 ?a5 ?l5 ?c5 ?k5 ?a6 ?l6 ?c6 ?k6 ?a7 ?l7 ?c7 ?k7 ?a8 ?l8 ?c8 ?k8 ?a9 ?l9 ?c9 ?k9 ?a10 ?l10 ?c10 ?k10 ?a11 ?l11 ?c11 ?k11 ?a12 ?l12 ?c12 ?k12 ?a13 ?l13 ?c13 ?k13 ?a14 ?l14 ?c14 ?k14 ?a15 ?l15 ?c15 ?k15 ?a16 ?l16 ?c16 ?k16 ?a17 ?l17 ?c17 ?k17 ?a18 ?l18 ?c18 ?k18 ?a19 ?l19 ?c19 ?k19 ?a20 ?l20 ?c20 ?k20 ?a21 ?l21 ?c21 ?k21 ?ca0 ?cb0 ?cc0 ?ce0 ?cf0 ?cg0 ?ch0 ?cn0_0 ?cn0_1 ?cn0_2 ?cn0_3 ?cn0_4 ?cn0_5 ?hg0 ?gg0 ?zz0 ?zz1 ?zz2 ?zz3 ?zz4 ?zz5 ?zz6 ?zz7 ?zz8 ?zz9 ?zz10 ?zz11 ?zz12 ?zz13 ?zz14 ?zz15
    (case ca0 => k_is)
    (case a0 => k_is)
    (case i0 => k_is)
    (case l0 => k_is)
    (case c0 => k_is)
    (case k0 => k_is)
    (case a1 => k_is)
    (case i1 => k_is)
    (case l1 => k_is)
    (case c1 => k_is)
    (case k1 => k_is)
    (case a2 => k_is)
    (case i2 => k_is)
    (case l2 => k_is)
    (case c2 => k_is)
    (case k2 => k_is)
    (case a3 => k_is)
    (case i3 => k_is)
    (case l3 => k_is)
    (case c3 => k_is)
    (case k3 => k_is)
    (case a4 => k_is)
    (case l4 => k_is)
    (case c4 => k_is)
    (case k4 => k_is)
    (case a5 => k_is)
    (case l5 => k_is)
    (case c5 => k_is)
    (case k5 => k_is)
    (case a6 => k_is)
    (case l6 => k_is)
    (case c6 => k_is)
    (case k6 => k_is)
    (case a7 => k_is)
    (case l7 => k_is)
    (case c7 => k_is)
    (case k7 => k_is)
    (case a8 => k_is)
    (case l8 => k_is)
    (case c8 => k_is)
    (case k8 => k_is)
    (case a9 => k_is)
    (case l9 => k_is)
    (case c9 => k_is)
    (case k9 => k_is)
    (case a10 => k_is)
    (case l10 => k_is)
    (case c10 => k_is)
    (case k10 => k_is)
    (case a11 => k_is)
    (case l11 => k_is)
    (case c11 => k_is)
    (case k11 => k_is)
    (case a12 => k_is)
    (case l12 => k_is)
    (case c12 => k_is)
    (case k12 => k_is)
    (case a13 => k_is)
    (case l13 => k_is)
    (case c13 => k_is)
    (case k13 => k_is)
    (case a14 => k_is)
    (case l14 => k_is)
    (case c14 => k_is)
    (case k14 => k_is)
    (case a15 => k_is)
    (case l15 => k_is)
    (case c15 => k_is)
    (case k15 => k_is)
    (case a16 => k_is)
    (case l16 => k_is)
    (case c16 => k_is)
    (case k16 => k_is)
    (case a17 => k_is)
    (case l17 => k_is)
    (case c17 => k_is)
    (case k17 => k_is)
    (case a18 => k_is)
    (case l18 => k_is)
    (case c18 => k_is)
    (case k18 => k_is)
    (case a19 => k_is)
    (case l19 => k_is)
    (case c19 => k_is)
    (case k19 => k_is)
    (case a20 => k_is)
    (case l20 => k_is)
    (case c20 => k_is)
    (case k20 => k_is)
    (case a21 => k_is)
    (case l21 => k_is)
    (case c21 => k_is)
    (case k21 => k_is)
    (case cb0 => k_is)
    (case cc0 => k_is)
    (case ce0 => k_is)
    (case cf0 => k_is)
    (case cg0 => k_is)
    (case ch0 => k_is)
    (case cn0_0 => k_is)
    (case cn0_1 => k_is)
    (case cn0_2 => k_is)
    (case cn0_3 => k_is)
    (case cn0_4 => k_is)
    (case cn0_5 => k_is)
    (case gg0 => k_is)
    (case zz0 => k_is)
    (case zz1 => k_is)
    (case zz2 => k_is)
    (case zz3 => k_is)
    (case zz4 => k_is)
    (case zz5 => k_is)
    (case zz6 => k_is)
    (case zz7 => k_is)
    (case zz8 => k_is)
    (case zz9 => k_is)
    (case zz10 => k_is)
    (case zz11 => k_is)
    (case zz12 => k_is)
    (case zz13 => k_is)
    (case zz14 => k_is)
    (case zz15 => k_is)
    (case hg0 => k_is)
