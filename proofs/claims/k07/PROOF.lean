import PyProof.Rows.All
import Wide.All
import OpenK.AllK
import Wide.FinOn
import HandS.Base
import HandS.Call
import HandS.List
import KE.SortData
import HandS.Words
import HandS.Flow
import HandS.Star
import PyProof.EqLayable
import HandS.Exc
import HandS.Ends
import HandS.ExcIs
import HandS.ExcField
import HandS.TryMany
import KE.KExcSuper
import HandS.Dict
import KE.DataCmp
import HandS.Deep
import HandS.TupMul
import HandS.TupAny
import HandS.Text
import HandS.Conv
import PyProof.P3In
import HandS.ExcOwn
import HandS.Comp
import HandS.Iter
import HandS.TryOnly
import KE.DataMinMax
import HandS.IsInst
import HandS.Style
import KE.KExcIs
import HandS.Zip
import HandS.StrMore
import PyProof.WalksMore
import HandS.WordsExc
import HandS.SetFor
import HandS.SetKeys
import KE.KDictSum
import KE.KDictCopyH
import HandS.ExcValue
import HandS.DictComp
import PySem.Challenge.RW_nettingpots_k07_nets_in_pots
/-! text D0 -/
set_option Elab.async false
set_option linter.all false
set_option maxRecDepth 100000
set_option maxHeartbeats 4000000
namespace Dv
open PySem

/-! ### data, states, results -/
abbrev P := PyData
/-- a source of draws -/
abbrev Bx := Int × Int × Int
inductive R (α : Type) where
  | ok (a : α) (b : Bx)
  | ex (c : Nat) (d : Option P) (b : Bx)
  | no
def R.bind {α β : Type} (r : R α) (f : α → Bx → R β) : R β :=
  match r with
  | .ok a b => f a b
  | .ex c d b => .ex c d b
  | .no => .no
def R.ofO {α : Type} (o : Option α) (b : Bx) : R α :=
  match o with
  | some a => .ok a b
  | none => .no
/-- a slot: nothing, a value that is never changed any more, a list of the def's own -/
inductive Sl where
  | no
  | v (d : P)
  | o (d : P)
abbrev Env := List Sl
inductive Out where
  | nx (e : Env) (b : Bx)
  | rt (d : P) (b : Bx)
  | xx (e : Env) (c : Nat) (d : Option P) (b : Bx)
  | no

/-! ### syntax -/
inductive Op where
  | add | sub | mul | fdiv | mod | pow | band | bxor | shl | shr
inductive Cp where
  | eq | ne | lt | le | gt | ge | is_ | isn | in_ | nin
inductive Tg where
  | nm (i : Nat)
  | tp (t : Tg)
  | nil
  | cons (a b : Tg)
inductive Bi where
  | len | abs | int_ | bool_ | str_ | tuple_ | list_ | sorted | sortset | lenset | sum | max | min | all | any
inductive Mt where
  | strip | index | get1 | get2 | join | split | partition | bitlen | count
inductive Ty where
  | int_ | str_ | bool_ | tuple_ | list_ | seq_ | numstr
inductive IE where
  | var (i : Nat)
  | ovar (i : Nat)
  | cst (d : P)
  | glob (d : P)
  | bin (op : Op) (a b : IE)
  | neg (a : IE)
  | not (a : IE)
  | cmp (op : Cp) (a b : IE)
  | chain (o1 o2 : Cp) (a b c : IE)
  | chain3 (o1 o2 o3 : Cp) (a b c d : IE)
  | bget (j : Nat)
  | and (a b : IE)
  | or (a b : IE)
  | ite (c a b : IE)
  | nil
  | cons (a as : IE)
  | star (a as : IE)
  | tup (as : IE)
  | lst (as : IE)
  | idx (a i : IE)
  | slc (a lo hi : IE)
  | rev (a : IE)
  | lc (own : List Nat) (elt : IE) (tg : Tg) (it ifs : IE)
  | lc2 (own own2 : List Nat) (elt : IE) (tg : Tg) (it ifs : IE) (tg2 : Tg) (it2 ifs2 : IE)
  | call (f : Nat) (as : IE)
  | callK (f : Nat) (perm : List Nat) (as ks : IE)
  | callB (f : Nat) (as : IE)
  | callX (f : Nat) (a as : IE)
  | bi (b : Bi) (as : IE)
  | isi (t : Ty) (a : IE)
  | mth (m : Mt) (a as : IE)
  | rng (as : IE)
  | trg (as : IE)
  | lrg (as : IE)
  | enm (a : IE)
  | zip (a b : IE)
  | tmp (is : List Nat) (a : IE)
  | dnew (t : Bool)
  | dvals (fr : Bool) (a : IE)
  | ditems (fr : Bool) (a : IE)
  | dkeys (fr : Bool) (a : IE)
  | dcomp (own : List Nat) (k v : IE) (tg : Tg) (it ifs : IE)
  | dof (a : IE)
inductive IS where
  | nop
  | seq (a b : IS)
  | set (i : Nat) (ow : Bool) (e : IE)
  | par2 (i : Nat) (oi : Bool) (j : Nat) (oj : Bool) (a b : IE)
  | par3 (i : Nat) (oi : Bool) (j : Nat) (oj : Bool) (l : Nat) (ol : Bool) (a b c : IE)
  | sett (tg : Tg) (e : IE)
  | app (i : Nat) (e : IE)
  | ext (i : Nat) (e : IE)
  | pop (j i : Nat) (e : IE)
  | stix (i : Nat) (k e : IE)
  | bset (j : Nat) (e : IE)
  | augx (i : Nat) (k : IE) (op : Op) (e : IE)
  | aug (i : Nat) (op : Op) (e : IE)
  | frz (i : Nat)
  | forr (tg : Tg) (it : IE) (body : IS)
  | whil (c : IE) (body : IS)
  | iff (c : IE) (a b : IS)
  | ret (e : IE)
  | retn
  | drop (e : IE)
  | raise (c : Nat) (e : Option IE)
  | pots (f q p r : Nat) (it : IE) (bk : Nat)
  | tryx (i : Nat) (body : IS) (c : Nat) (j : Nat) (s : Str)

/-! ### operations on data -/
def isFlat : P → Bool
  | .none | .bool _ | .int _ | .str _ => true
  | _ => false
mutual
/-- no list, no dict within -/
def hard : P → Bool
  | .none | .bool _ | .int _ | .str _ => true
  | .tuple xs => hardA xs
  | _ => false
def hardA : List P → Bool
  | [] => true
  | x :: xs => hard x && hardA xs
end
mutual
/-- no dict within -/
def noD : P → Bool
  | .list xs => noDA xs
  | .tuple xs => noDA xs
  | .dict _ => false
  | .none => true
  | .bool _ => true
  | .int _ => true
  | .str _ => true
def noDA : List P → Bool
  | [] => true
  | x :: xs => noD x && noDA xs
end
def big : Int := 18446744073709551616
def line : Nat := 16777216
/-- not above n, either way; by Nat.ble alone, so that it is cheap where i is open -/
def leN (i : Int) (n : Nat) : Bool := Nat.ble i.natAbs n
theorem leN_iff {i : Int} {n : Nat} (h : leN i n = true) : -(n : Int) ≤ i ∧ i ≤ n := by
  have h : i.natAbs ≤ n := Nat.le_of_ble_eq_true h
  omega
theorem leN_of {i : Int} {n : Nat} (h : i.natAbs ≤ n) : leN i n = true := Nat.ble_eq_true_of_le h
def mulOk (i j : Int) : Bool := leN i 18446744073709551615 || leN j 18446744073709551615
def repD (xs : List P) (k : Int) : Option (List P) :=
  if leN k 4611686018427387903 && Nat.ble (xs.length * k.toNat) line then some (List.replicate k.toNat xs).flatten else none
def binD (op : Op) (x y : P) : Option P :=
  match op, x, y with
  | .add, .int i, .int j => some (.int (i + j))
  | .add, .list xs, .list ys => if xs.length + ys.length ≤ line then some (.list (xs ++ ys)) else none
  | .add, .tuple xs, .tuple ys => if xs.length + ys.length ≤ line then some (.tuple (xs ++ ys)) else none
  | .add, .str a, .str b => if a.length + b.length ≤ line then some (.str ⟨a.cps ++ b.cps⟩) else none
  | .sub, .int i, .int j => some (.int (i - j))
  | .mul, .int i, .int j => if mulOk i j then some (.int (i * j)) else none
  | .mul, .list xs, .int k => (repD xs k).map .list
  | .mul, .tuple xs, .int k => (repD xs k).map .tuple
  | .fdiv, .int i, .int j => if decide (j ≠ 0) && decide (j.natAbs < 1073741824) then some (.int (i.fdiv j)) else none
  | .mod, .int i, .int j => if decide (j ≠ 0) then some (.int (i.fmod j)) else none
  | .pow, .int i, .int j => if decide (0 ≤ j) && decide (j ≤ 1000000) && decide (i.natAbs < 18446744073709551616) then some (.int (i ^ j.toNat)) else none
  | _, _, _ => none
/-! dicts: (.none, .none) ahead: the keys are tuples; (.none, true) ahead: it is locked, never changed any more -/
def tMark : P × P := (.none, .none)
def lMark : P × P := (.none, .bool true)
def dcut : List (P × P) → List (P × P)
  | (.none, _) :: r => dcut r
  | r => r
def dTq : List (P × P) → Bool
  | (.none, .none) :: _ => true
  | (.none, _) :: r => dTq r
  | _ => false
def dLk : List (P × P) → Bool
  | (.none, .bool _) :: _ => true
  | _ => false
def isKey0 : P → Bool
  | .int _ => true
  | .str _ => true
  | _ => false
def keyEq0 : P → P → Bool
  | .int i, .int j => decide (i = j)
  | .str a, .str b => decide (a = b)
  | _, _ => false
def keysEq0 : List P → List P → Bool
  | [], [] => true
  | x :: xs, y :: ys => keyEq0 x y && keysEq0 xs ys
  | _, _ => false
def keyEq : P → P → Bool
  | .tuple xs, .tuple ys => keysEq0 xs ys
  | .int i, .int j => decide (i = j)
  | .str a, .str b => decide (a = b)
  | _, _ => false
def keyOk : Bool → P → Bool
  | false, .int _ => true
  | false, .str _ => true
  | true, .tuple xs => xs.all isKey0
  | _, _ => false
def dfind : List (P × P) → P → Option P
  | [], _ => none
  | e :: r, k => if keyEq e.1 k then some e.2 else dfind r k
def dput (ds : List (P × P)) (k v : P) : List (P × P) :=
  if ds.any fun e => keyEq e.1 k then ds.map (fun e => if keyEq e.1 k then (e.1, v) else e) else ds ++ [(k, v)]
def dgetD : P → P → Option (Option P)
  | .dict ds, k => if keyOk (dTq ds) k then some (dfind ds k) else none
  | _, _ => none
def dputD : P → P → P → Option P
  | .dict ds, k, v => if keyOk (dTq ds) k && !dLk ds && Nat.ble (ds.length + 1) line then some (.dict (dput ds k v)) else none
  | _, _, _ => none
def dvalsD (fr : Bool) : P → Option (List P)
  | .dict ds => if (fr || dLk ds) && !dTq ds then some ((dcut ds).map (·.2)) else none
  | _ => none
def ditemsD (fr : Bool) : P → Option (List P)
  | .dict ds => if (fr || dLk ds) && !dTq ds then some ((dcut ds).map fun e => .tuple [e.1, e.2]) else none
  | _ => none
def dkeysD (fr : Bool) : P → Option (List P)
  | .dict ds => if (fr || dLk ds) && !dTq ds then some ((dcut ds).map (·.1)) else none
  | _ => none
def dlockD : P → P
  | .dict ds => if dLk ds then .dict ds else .dict (lMark :: ds)
  | d => d

def eqD (x y : P) : Option Bool := if SeqAt.shaped x && SeqAt.shaped y then some (PyData.eqv x y) else none
/-- one sign in a text -/
def signIn (a b : Str) : Option Bool :=
  match a.cps.toList with
  | [c] => some (b.cps.toList.contains c)
  | _ => none
def noNone : P → Bool
  | .none => false
  | _ => true
/-- two values of one form, by which may be ordered -/
def ordD (x y : P) : Bool := PySem.W.alike x y && noNone x && decide (x.depth ≤ 60) && (noD x && noD y)
def cmpD (op : Cp) (x y : P) : Option Bool :=
  match op with
  | .eq => eqD x y
  | .ne => (eqD x y).map (!·)
  | .lt => match x, y with
    | .int i, .int j => some (decide (i < j))
    | x, y => if ordD x y then some (PySem.W.dataLt x y) else none
  | .le => match x, y with
    | .int i, .int j => some (decide (i ≤ j))
    | x, y => if ordD x y then some (!PySem.W.dataLt y x) else none
  | .gt => match x, y with
    | .int i, .int j => some (decide (j < i))
    | x, y => if ordD x y then some (PySem.W.dataLt y x) else none
  | .ge => match x, y with
    | .int i, .int j => some (decide (j ≤ i))
    | x, y => if ordD x y then some (!PySem.W.dataLt x y) else none
  | .is_ => match y with
    | .none => some (match x with | .none => true | _ => false)
    | _ => none
  | .isn => match y with
    | .none => some (match x with | .none => false | _ => true)
    | _ => none
  | .in_ => match x, y with
    | .str a, .str b => signIn a b
    | d, .list ys => if SeqAt.shaped d && SeqAt.shaped (.list ys) then some (ys.any fun z => PyData.eqv z d) else none
    | d, .tuple ys => if SeqAt.shaped d && SeqAt.shaped (.tuple ys) then some (ys.any fun z => PyData.eqv z d) else none
    | d, .dict ds => (dgetD (.dict ds) d).map Option.isSome
    | _, _ => none
  | .nin => match x, y with
    | .str a, .str b => (signIn a b).map (!·)
    | d, .list ys => if SeqAt.shaped d && SeqAt.shaped (.list ys) then some (!ys.any fun z => PyData.eqv z d) else none
    | d, .tuple ys => if SeqAt.shaped d && SeqAt.shaped (.tuple ys) then some (!ys.any fun z => PyData.eqv z d) else none
    | d, .dict ds => (dgetD (.dict ds) d).map fun o => !o.isSome
    | _, _ => none
def truD : P → Option Bool
  | .none => some false
  | .bool b => some b
  | .int i => some (i != 0)
  | .str x => if x.length ≤ line then some ((x.length : Int) != 0) else none
  | .list xs => some (!xs.isEmpty)
  | .tuple xs => some (!xs.isEmpty)
  | .dict _ => none
def idxD (x : P) (i : P) : Option P :=
  match x, i with
  | .list xs, .int i => L2.atI xs i
  | .tuple xs, .int i => L2.atI xs i
  | .str z, .int i => if z.length ≤ line then (L2.atI z.cps.toList i).map fun c => .str ⟨#[c]⟩ else none
  | .dict ds, k => match dgetD (.dict ds) k with
    | some (some v) => some v
    | _ => none
  | _, _ => none
def cutD (xs : List P) (lo hi : Option Int) : List P :=
  (xs.drop (HT.sIx xs.length 0 lo)).take (HT.sIx xs.length xs.length hi - HT.sIx xs.length 0 lo)
def slcD (x : P) (lo hi : Option Int) : Option P :=
  match x with
  | .list xs => some (.list (cutD xs lo hi))
  | .tuple xs => some (.tuple (cutD xs lo hi))
  | _ => none
/-- a slice's part: left out (nil), or an int -/
def partE : IE → P → Option (Option Int)
  | .nil, _ => some none
  | _, .int i => some (some i)
  | _, _ => none
def revD : P → Option P
  | .list xs => some (.list xs.reverse)
  | .tuple xs => some (.tuple xs.reverse)
  | _ => none
def signs (z : Str) : List P := z.cps.toList.map fun c => .str ⟨#[c]⟩
/-- what a walk over a value yields -/
def itemsD : P → Option (List P)
  | .list xs => some xs
  | .tuple xs => some xs
  | .str z => some (signs z)
  | _ => none
def int62 (i : Int) : Bool := leN i 4611686018427387903
def rngUp (lo : Int) : Nat → List P
  | 0 => []
  | n + 1 => .int lo :: rngUp (lo + 1) n
def rngBy (lo c : Int) : Nat → List P
  | 0 => []
  | n + 1 => .int lo :: rngBy (lo + c) c n
def rngD : List P → Option (List P)
  | [.int j] => if int62 j then some (rngUp 0 j.toNat) else none
  | [.int i, .int j] => if int62 i && int62 j then some (rngUp i (j - i).toNat) else none
  | [.int i, .int j, .int (-1)] => if int62 i && int62 j then some (rngBy i (-1) (i - j).toNat) else none
  | _ => none
def enumFrom (k : Int) : List P → List P
  | [] => []
  | x :: xs => .tuple [.int k, x] :: enumFrom (k + 1) xs
def zipD : List P → List P → List P
  | x :: xs, y :: ys => .tuple [x, y] :: zipD xs ys
  | _, _ => []
def zipV : P → P → Option (List P)
  | .list xs, .list ys => some (zipD xs ys)
  | .tuple xs, .tuple ys => some (zipD xs ys)
  | _, _ => none
def enumV : P → Option (List P)
  | .list xs => some (enumFrom 0 xs)
  | .tuple xs => some (enumFrom 0 xs)
  | _ => none
def intsOf : List P → Option (List Int)
  | [] => some []
  | .int i :: xs => (intsOf xs).map (i :: ·)
  | _ => none
def boolsOf : List P → Option (List Bool)
  | [] => some []
  | .bool b :: xs => (boolsOf xs).map (b :: ·)
  | _ => none
def allAlike (xs : List P) : Bool := xs.all fun x => xs.all fun y => PySem.W.alike x y
def sortable (xs : List P) : Bool := (xs.all fun x => match x with | .tuple (_ :: _) => true | _ => false) || (xs.all fun x => match x with | .none => false | .tuple _ => false | _ => true)
/-- insertion, stable -/
def insD (le : P → P → Bool) (x : P) : List P → List P
  | [] => [x]
  | y :: ys => if le x y then x :: y :: ys else y :: insD le x ys
def sortD (le : P → P → Bool) : List P → List P
  | [] => []
  | x :: xs => insD le x (sortD le xs)
def leD (x y : P) : Bool := !PySem.W.dataLt y x
def maxI : List Int → Option Int
  | [] => none
  | x :: xs => match maxI xs with
    | none => some x
    | some y => some (if y < x then x else y)
def minI : List Int → Option Int
  | [] => none
  | x :: xs => match minI xs with
    | none => some x
    | some y => some (if x < y then x else y)
def lenD : P → Option Int
  | .list xs => some xs.length
  | .tuple xs => some xs.length
  | .str z => if z.length ≤ line then some z.length else none
  | _ => none
def b2i (b : Bool) : Int := if b then 1 else 0
def fLen : List P → Option P
  | [x] => (lenD x).map .int
  | _ => none
def fAbs : List P → Option P
  | [.int i] => some (.int (if i < 0 then -i else i))
  | _ => none
def fInt : List P → Option P
  | [.int i] => some (.int i)
  | [.bool b] => some (.int (b2i b))
  | _ => none
def fBool : List P → Option P
  | [.bool b] => some (.bool b)
  | [.int i] => some (.bool (i != 0))
  | _ => none
def fTuple : List P → Option P
  | [.list xs] => some (.tuple xs)
  | [.tuple xs] => some (.tuple xs)
  | _ => none
def fList : List P → Option P
  | [.list xs] => some (.list xs)
  | [.tuple xs] => some (.list xs)
  | _ => none
def fSortedL (xs : List P) : Option P := if allAlike xs && sortable xs && Nat.ble xs.length line && xs.all (fun x => Nat.ble x.depth 60) then some (.list (sortD leD xs)) else none
/-- the keys of a dict -/
def fSortedD (ds : List (P × P)) : Option P := if !dTq ds && allAlike ((dcut ds).map (·.1)) && Nat.ble (dcut ds).length line then some (.list (sortD leD ((dcut ds).map (·.1)))) else none
def fSorted : List P → Option P
  | [.list xs] => fSortedL xs
  | [.dict ds] => fSortedD ds
  | _ => none
/-- each once, in the order of the first ones -/
def dedD : List P → List P → List P
  | acc, [] => acc
  | acc, x :: xs => dedD (if acc.any fun y => keyEq0 y x then acc else acc ++ [x]) xs
def sortsetD (xs : List P) : Option P := if xs.all isKey0 && allAlike xs && Nat.ble xs.length 4000 then some (.list (sortD leD (dedD [] xs))) else none
def lensetD (xs : List P) : Option P := if xs.all isKey0 && Nat.ble xs.length 4000 then some (.int (dedD [] xs).length) else none
def fSortset : List P → Option P
  | [.list xs] => sortsetD xs
  | [.tuple xs] => sortsetD xs
  | _ => none
def fLenset : List P → Option P
  | [.list xs] => lensetD xs
  | [.tuple xs] => lensetD xs
  | _ => none
def fSum : List P → Option P
  | [.list xs] => (intsOf xs).map fun ns => .int ns.sum
  | [.tuple xs] => (intsOf xs).map fun ns => .int ns.sum
  | _ => none
def fMax : List P → Option P
  | [.list xs] => ((intsOf xs).bind maxI).map .int
  | [.tuple xs] => ((intsOf xs).bind maxI).map .int
  | [.int a, .int b] => some (.int (if b > a then b else a))
  | _ => none
def fMin : List P → Option P
  | [.list xs] => ((intsOf xs).bind minI).map .int
  | [.tuple xs] => ((intsOf xs).bind minI).map .int
  | [.int a, .int b] => some (.int (if b < a then b else a))
  | _ => none
def fAll : List P → Option P
  | [.list xs] => (boolsOf xs).map fun bs => .bool (bs.all id)
  | _ => none
def fAny : List P → Option P
  | [.list xs] => (boolsOf xs).map fun bs => .bool (bs.any id)
  | _ => none
def biD (b : Bi) : List P → Option P :=
  match b with
  | .len => fLen
  | .abs => fAbs
  | .int_ => fInt
  | .bool_ => fBool
  | .tuple_ => fTuple
  | .list_ => fList
  | .sorted => fSorted
  | .sortset => fSortset
  | .lenset => fLenset
  | .sum => fSum
  | .max => fMax
  | .min => fMin
  | .all => fAll
  | .any => fAny
  | _ => fun _ => none
def isD : P → Bool
  | .dict _ => true
  | _ => false
def isiD (t : Ty) (x : P) : Option Bool :=
  match t with
  | .int_ => (match x with | .dict _ => none | .int _ => some true | .bool _ => some true | _ => some false)
  | .str_ => (match x with | .dict _ => none | .str _ => some true | _ => some false)
  | .bool_ => (match x with | .dict _ => none | .bool _ => some true | _ => some false)
  | .tuple_ => (match x with | .dict _ => none | .tuple _ => some true | _ => some false)
  | .list_ => (match x with | .dict _ => none | .list _ => some true | _ => some false)
  | .seq_ => (match x with | .dict _ => none | .tuple _ => some true | .list _ => some true | _ => some false)
  | .numstr => (match x with | .dict _ => none | .bool _ => some true | .str _ => some true | _ => some false)
def mOk (m : Mt) (x : P) : Bool :=
  match m, x with
  | .strip, .str _ => true
  | .index, .list _ => true
  | .get1, .dict _ => true
  | .get2, .dict _ => true
  | _, _ => false
def mthD (m : Mt) (x : P) (as : List P) : Option P :=
  match m, x, as with
  | .strip, .str a, [.str b] => if a.length ≤ line then some (.str (Txt.stripChars a b)) else none
  | .index, .list xs, [y] => if SeqAt.shaped (.list xs) && SeqAt.shaped y then (xs.findIdx? fun z => PyData.eqv z y).map fun j => .int (j : Nat) else none
  | .get1, .dict ds, [k] => (dgetD (.dict ds) k).map fun o => o.getD .none
  | .get2, .dict ds, [k, z] => (dgetD (.dict ds) k).map fun o => o.getD z
  | _, _, _ => none

/-- the places of the pots, by their numbers -/
def potsL : Nat → List P → List (List Nat) → Option (List (List Nat))
  | _, [], acc => some acc
  | i, d :: ds, acc => match d with
    | .int k => if 0 ≤ k then (match acc[k.toNat]? with
      | some l => potsL (i + 1) ds (acc.set k.toNat (l ++ [i]))
      | none => none) else none
    | _ => none
def itemsLT : P → Option (List P)
  | .list xs => some xs
  | .tuple xs => some xs
  | _ => none
def tupN (l : List Nat) : P := .tuple (l.map fun i => .int (i : Nat))
def potsD (n : Nat) (d : P) : Option P := match itemsLT d with
  | some ds => if Nat.ble n line && Nat.ble ds.length line then (potsL 0 ds (List.replicate n [])).map fun gs => .list (gs.map tupN) else none
  | none => none

/-! ### environments -/
def getV (e : Env) (i : Nat) : Option P :=
  match e[i]? with
  | some (.v d) => some d
  | _ => none
def getO (e : Env) (i : Nat) : Option P :=
  match e[i]? with
  | some (.o d) => some d
  | _ => none
def wipe (e : Env) : List Nat → Env
  | [] => e
  | i :: is => (wipe e is).set i .no
def freeze (e : Env) : List Nat → Env
  | [] => e
  | i :: is => match getO (freeze e is) i with
    | some d => (freeze e is).set i (.v (dlockD d))
    | none => freeze e is
/-- targets: values stored one by one -/
def asgn : Tg → P → Env → Option Env
  | .nm i, d, e => some (e.set i (.v d))
  | .tp t, d, e => match d with
    | .tuple xs => asgn t (.list xs) e
    | .list xs => asgn t (.list xs) e
    | _ => none
  | .nil, d, e => match d with
    | .list [] => some e
    | _ => none
  | .cons a b, d, e => match d with
    | .list (x :: xs) => match asgn a x e with
      | some e' => asgn b (.list xs) e'
      | none => none
    | _ => none
def argsOf : P → List P
  | .list xs => xs
  | _ => []
/-- values in another order -/
def kperm {α : Type} (pm : List Nat) (l : List α) : List α := pm.filterMap (l[·]?)
def boxOf : P → Option Bx
  | .list [.int a, .int b, .int c] => some (a, b, c)
  | _ => none
def b0 : Bx := (0, 0, 0)
def bxAt : Nat → Bx → Option Int
  | 0, b => some b.1
  | 1, b => some b.2.1
  | 2, b => some b.2.2
  | _, _ => none
def bxSet : Nat → Int → Bx → Option Bx
  | 0, n, b => some (n, b.2.1, b.2.2)
  | 1, n, b => some (b.1, n, b.2.2)
  | 2, n, b => some (b.1, b.2.1, n)
  | _, _, _ => none

/-- within a comprehension nothing may be raised -/
def R.noex {α : Type} (r : R α) : R α :=
  match r with
  | .ok a b => .ok a b
  | _ => .no
/-- a result without lists -/
def R.hd (r : R P) : R P :=
  match r with
  | .ok d b => if hard d then .ok d b else .no
  | .ex c none b => .ex c none b
  | .ex c (some d) b => if hard d then .ex c (some d) b else .no
  | .no => .no
/-- a walk that makes a list -/
def lcL (turn : P → Bx → R (List P)) : List P → Bx → R (List P)
  | [], b => .ok [] b
  | x :: xs, b => (turn x b).bind fun ys b1 => (lcL turn xs b1).bind fun zs b2 => .ok (ys ++ zs) b2
/-- a walk that makes a dict; nothing may be raised within -/
def dcL (turn : P → List (P × P) → Bx → R P) : List P → List (P × P) → Bx → R P
  | [], ds, b => .ok (.dict ds) b
  | x :: xs, ds, b => match turn x ds b with
    | .ok (.dict ds') b1 => dcL turn xs ds' b1
    | _ => .no
def dofL : List P → List (P × P) → Option P
  | [], ds => some (.dict ds)
  | .tuple [k, v] :: xs, ds => match dputD (.dict ds) k v with
    | some (.dict ds') => dofL xs ds'
    | _ => none
  | _ :: _, _ => none
abbrev Phi := Nat → List P → Bx → R P
def ev (φ : Phi) : IE → Env → Bx → R P
  | .var i, e, b => R.ofO (getV e i) b
  | .ovar i, e, b => R.ofO (getO e i) b
  | .cst d, _, b => .ok d b
  | .glob d, _, b => .ok d b
  | .bin op x y, e, b => (ev φ x e b).bind fun d b1 => (ev φ y e b1).bind fun d' b2 => R.ofO (binD op d d') b2
  | .neg x, e, b => (ev φ x e b).bind fun d b1 => match d with
    | .int i => .ok (.int (-i)) b1
    | _ => .no
  | .not x, e, b => (ev φ x e b).bind fun d b1 => R.ofO ((truD d).map fun t => .bool (!t)) b1
  | .cmp op x y, e, b => (ev φ x e b).bind fun d b1 => (ev φ y e b1).bind fun d' b2 => R.ofO ((cmpD op d d').map .bool) b2
  | .chain o1 o2 x y z, e, b => (ev φ x e b).bind fun d b1 => (ev φ y e b1).bind fun d' b2 => match cmpD o1 d d' with
    | some true => (ev φ z e b2).bind fun d'' b3 => R.ofO ((cmpD o2 d' d'').map .bool) b3
    | some false => .ok (.bool false) b2
    | none => .no
  | .chain3 o1 o2 o3 x y z w, e, b => (ev φ x e b).bind fun d b1 => (ev φ y e b1).bind fun d' b2 => match cmpD o1 d d' with
    | some true => (ev φ z e b2).bind fun d'' b3 => match cmpD o2 d' d'' with
      | some true => (ev φ w e b3).bind fun d3 b4 => R.ofO ((cmpD o3 d'' d3).map .bool) b4
      | some false => .ok (.bool false) b3
      | none => .no
    | some false => .ok (.bool false) b2
    | none => .no
  | .bget j, _, b => R.ofO ((bxAt j b).map .int) b
  | .and x y, e, b => (ev φ x e b).bind fun d b1 => match truD d with
    | some true => ev φ y e b1
    | some false => .ok d b1
    | none => .no
  | .or x y, e, b => (ev φ x e b).bind fun d b1 => match truD d with
    | some false => ev φ y e b1
    | some true => .ok d b1
    | none => .no
  | .ite c x y, e, b => (ev φ c e b).bind fun d b1 => match truD d with
    | some true => ev φ x e b1
    | some false => ev φ y e b1
    | none => .no
  | .nil, _, b => .ok (.list []) b
  | .cons x xs, e, b => (ev φ x e b).bind fun d b1 => (ev φ xs e b1).bind fun ds b2 => .ok (.list (d :: argsOf ds)) b2
  | .star x xs, e, b => (ev φ x e b).bind fun d b1 => match d with
    | .list ys => (ev φ xs e b1).bind fun ds b2 => .ok (.list (ys ++ argsOf ds)) b2
    | .tuple ys => (ev φ xs e b1).bind fun ds b2 => .ok (.list (ys ++ argsOf ds)) b2
    | _ => .no
  | .tup xs, e, b => (ev φ xs e b).bind fun ds b1 => if (argsOf ds).length ≤ line then .ok (.tuple (argsOf ds)) b1 else .no
  | .lst xs, e, b => (ev φ xs e b).bind fun ds b1 => if (argsOf ds).length ≤ line then .ok (.list (argsOf ds)) b1 else .no
  | .idx x i, e, b => (ev φ x e b).bind fun d b1 => (ev φ i e b1).bind fun d' b2 => R.ofO (idxD d d') b2
  | .slc x lo hi, e, b => (ev φ x e b).bind fun d b1 => (ev φ lo e b1).bind fun l b2 => match partE lo l with
    | none => .no
    | some l' => (ev φ hi e b2).bind fun h b3 => match partE hi h with
      | none => .no
      | some h' => R.ofO (slcD d l' h') b3
  | .rev x, e, b => (ev φ x e b).bind fun d b1 => R.ofO (revD d) b1
  | .lc own elt tg it ifs, e, b => (ev φ it e b).bind fun d b1 => match itemsD d with
    | none => .no
    | some xs => if xs.length ≤ line then (lcL (fun x b => R.noex (match asgn tg x (wipe e own) with
        | none => .no
        | some e' => (ev φ ifs e' b).bind fun t b2 => match truD t with
          | some true => (ev φ elt e' b2).bind fun y b3 => .ok [y] b3
          | some false => .ok [] b2
          | none => .no)) xs b1).bind fun ys b2 => .ok (.list ys) b2 else .no
  | .lc2 own own2 elt tg it ifs tg2 it2 ifs2, e, b => (ev φ it e b).bind fun d b1 => match itemsD d with
    | none => .no
    | some xs => (lcL (fun x b => R.noex (match asgn tg x (wipe e own) with
        | none => .no
        | some e' => (ev φ ifs e' b).bind fun t b2 => match truD t with
          | some true => (ev φ it2 e' b2).bind fun d2 b3 => match itemsD d2 with
            | none => .no
            | some zs => lcL (fun z b => match asgn tg2 z (wipe e' own2) with
              | none => .no
              | some e'' => (ev φ ifs2 e'' b).bind fun t b2 => match truD t with
                | some true => (ev φ elt e'' b2).bind fun y b3 => .ok [y] b3
                | some false => .ok [] b2
                | none => .no) zs b3
          | some false => .ok [] b2
          | none => .no)) xs b1).bind fun ys b2 => if ys.length ≤ line then .ok (.list ys) b2 else .no
  | .call f as, e, b => (ev φ as e b).bind fun ds b1 => match φ f (argsOf ds) b0 with
    | .ok d _ => .ok d b1
    | .ex c d _ => .ex c d b1
    | .no => .no
  | .callK f pm as ks, e, b => (ev φ as e b).bind fun ds b1 => (ev φ ks e b1).bind fun ds2 b2 => match φ f (kperm pm (argsOf ds ++ argsOf ds2)) b0 with
    | .ok d _ => .ok d b2
    | .ex c d _ => .ex c d b2
    | .no => .no
  | .callB f as, e, b => (ev φ as e b).bind fun ds b1 => φ f (argsOf ds) b1
  | .callX f a as, e, b => (ev φ a e b).bind fun d b1 => match boxOf d with
    | none => .no
    | some bx => (ev φ as e b1).bind fun ds b2 => match φ f (argsOf ds) bx with
      | .ok d _ => .ok d b2
      | .ex c d _ => .ex c d b2
      | .no => .no
  | .bi p as, e, b => (ev φ as e b).bind fun ds b1 => R.ofO (biD p (argsOf ds)) b1
  | .isi t a, e, b => (ev φ a e b).bind fun d b1 => R.ofO ((isiD t d).map .bool) b1
  | .mth m a as, e, b => (ev φ a e b).bind fun d b1 => if mOk m d then (ev φ as e b1).bind fun ds b2 => R.ofO (mthD m d (argsOf ds)) b2 else .no
  | .rng as, e, b => (ev φ as e b).bind fun ds b1 => R.ofO ((rngD (argsOf ds)).map .list) b1
  | .trg as, e, b => (ev φ as e b).bind fun ds b1 => match rngD (argsOf ds) with
    | some xs => if xs.length ≤ line then .ok (.tuple xs) b1 else .no
    | none => .no
  | .lrg as, e, b => (ev φ as e b).bind fun ds b1 => match rngD (argsOf ds) with
    | some xs => if xs.length ≤ line then .ok (.list xs) b1 else .no
    | none => .no
  | .enm a, e, b => (ev φ a e b).bind fun d b1 => R.ofO ((enumV d).map .list) b1
  | .zip x y, e, b => (ev φ x e b).bind fun d b1 => (ev φ y e b1).bind fun d' b2 => R.ofO ((zipV d d').map .list) b2
  | .tmp is a, e, b => R.hd (ev φ a (freeze e is) b)
  | .dnew t, _, b => .ok (.dict (if t then [tMark] else [])) b
  | .dvals fr a, e, b => (ev φ a e b).bind fun d b1 => R.ofO ((dvalsD fr d).map .list) b1
  | .ditems fr a, e, b => (ev φ a e b).bind fun d b1 => R.ofO ((ditemsD fr d).map .list) b1
  | .dkeys fr a, e, b => (ev φ a e b).bind fun d b1 => R.ofO ((dkeysD fr d).map .list) b1
  | .dcomp own kx vx tg it ifs, e, b => (ev φ it e b).bind fun d b1 => match itemsD d with
    | none => .no
    | some xs => dcL (fun x ds b => match asgn tg x (wipe e own) with
        | none => .no
        | some e' => (ev φ ifs e' b).bind fun t b2 => match truD t with
          | some true => (ev φ kx e' b2).bind fun kd b3 => (ev φ vx e' b3).bind fun vd b4 => R.ofO (dputD (.dict ds) kd vd) b4
          | some false => .ok (.dict ds) b2
          | none => .no) xs [] b1
  | .dof a, e, b => (ev φ a e b).bind fun d b1 => match itemsD d with
    | none => .no
    | some xs => R.ofO (dofL xs []) b1

/-! ### statements -/
def Out.bind (r : Out) (f : Env → Bx → Out) : Out :=
  match r with
  | .nx e b => f e b
  | o => o
def R.out {α : Type} (r : R α) (e : Env) (f : α → Bx → Out) : Out :=
  match r with
  | .ok a b => f a b
  | .ex c d b => .xx e c d b
  | .no => .no
def Out.ofO (o : Option Env) (b : Bx) : Out :=
  match o with
  | some e => .nx e b
  | none => .no
def forL (body : P → Env → Bx → Out) : List P → Env → Bx → Out
  | [], e, b => .nx e b
  | x :: xs, e, b => (body x e b).bind fun e1 b1 => forL body xs e1 b1
def whileL (test : Env → Bx → R Bool) (body : Env → Bx → Out) : Nat → Env → Bx → Out
  | 0, _, _ => .no
  | n + 1, e, b => (test e b).out e fun t b1 => if t then (body e b1).bind fun e2 b2 => whileL test body n e2 b2 else .nx e b1
def fuel : Nat := 1000000
/-- a fresh list becomes the def's own, if that is asked for -/
def mkSl (ow : Bool) (d : P) : Sl := if ow then (match d with | .list xs => .o (.list xs) | .dict xs => .o (.dict xs) | d => .v d) else .v d
def tru (φ : Phi) (c : IE) (e : Env) (b : Bx) : R Bool := (ev φ c e b).bind fun d b1 => R.ofO (truD d) b1
def setAt (d k v : P) : Option P :=
  match d, k with
  | .list xs, .int i => match L2.ixN xs.length i with
    | some j => some (.list (xs.set j v))
    | none => none
  | .dict ds, k => dputD (.dict ds) k v
  | _, _ => none
def augF : Op → Int → Int → Int
  | .sub, m, n => m - n
  | _, m, n => m + n
def ex (φ : Phi) : IS → Env → Bx → Out
  | .nop, e, b => .nx e b
  | .seq x y, e, b => (ex φ x e b).bind fun e1 b1 => ex φ y e1 b1
  | .set i ow x, e, b => (ev φ x e b).out e fun d b1 => .nx (e.set i (mkSl ow d)) b1
  | .par2 i oi j oj x y, e, b => (ev φ x e b).out e fun d b1 => (ev φ y e b1).out e fun d2 b2 => .nx ((e.set i (mkSl oi d)).set j (mkSl oj d2)) b2
  | .par3 i oi j oj l ol x y z, e, b => (ev φ x e b).out e fun d b1 => (ev φ y e b1).out e fun d2 b2 => (ev φ z e b2).out e fun d3 b3 => .nx (((e.set i (mkSl oi d)).set j (mkSl oj d2)).set l (mkSl ol d3)) b3
  | .sett tg x, e, b => (ev φ x e b).out e fun d b1 => Out.ofO (asgn tg d e) b1
  | .app i x, e, b => match getO e i with
    | some (.list xs) => (ev φ x e b).out e fun d b1 => if xs.length < line then .nx (e.set i (.o (.list (xs ++ [d])))) b1 else .no
    | _ => .no
  | .ext i x, e, b => match getO e i with
    | some (.list xs) => (ev φ x e b).out e fun d b1 => match d with
      | .list ys => if xs.length + ys.length ≤ line then .nx (e.set i (.o (.list (xs ++ ys)))) b1 else .no
      | _ => .no
    | _ => .no
  | .pop _ _ _, _, _ => .no
  | .stix i k x, e, b => match getO e i with
    | some o => (ev φ x e b).out e fun d b1 => (ev φ k e b1).out e fun kd b2 => match setAt o kd d with
      | some o' => .nx (e.set i (.o o')) b2
      | none => .no
    | none => .no
  | .bset j x, e, b => (ev φ x e b).out e fun d b1 => match d with
    | .int n => match bxSet j n b1 with
      | some b2 => .nx e b2
      | none => .no
    | _ => .no
  | .augx i k op x, e, b => match getO e i with
    | some o => (ev φ k e b).out e fun kd b1 => match idxD o kd with
      | some (.int m) => (ev φ x e b1).out e fun d b2 => match d with
        | .int n => match setAt o kd (.int (augF op m n)) with
          | some o' => .nx (e.set i (.o o')) b2
          | none => .no
        | _ => .no
      | _ => .no
    | none => .no
  | .aug i op x, e, b => match getV e i with
    | some (.int m) => (ev φ x e b).out e fun d b1 => match d with
      | .int n => .nx (e.set i (.v (.int (augF op m n)))) b1
      | _ => .no
    | _ => .no
  | .frz i, e, b => .nx (freeze e [i]) b
  | .forr tg it body, e, b => (ev φ it e b).out e fun d b1 => match itemsD d with
    | none => .no
    | some xs => forL (fun x e b => match asgn tg x e with
      | none => .no
      | some e' => ex φ body e' b) xs e b1
  | .whil c body, e, b => whileL (fun e b => tru φ c e b) (fun e b => ex φ body e b) fuel e b
  | .iff c x y, e, b => (tru φ c e b).out e fun t b1 => if t then ex φ x e b1 else ex φ y e b1
  | .ret x, e, b => (ev φ x e b).out e fun d b1 => .rt d b1
  | .retn, _, b => .rt .none b
  | .drop x, e, b => (ev φ x e b).out e fun _ b1 => .nx e b1
  | .raise c x, e, b => match x with
    | none => .xx e c none b
    | some x => (ev φ x e b).out e fun d b1 => .xx e c (some d) b1
  | .pots f q p r it bk, e, b => if Nat.blt f e.length && Nat.blt q e.length && Nat.blt p e.length && Nat.blt r e.length then (ev φ it e b).out e fun d b1 => match itemsD d with
    | none => .no
    | some xs => match (getV e bk).bind (potsD xs.length) with
      | some z => .rt z b1
      | none => .no
    else .no
  | .tryx i body c j s, e, b => match ex φ body e b with
    | .xx e1 c' (some d) b1 => if c' = c then .nx (((e1.set i .no).set j (.v (.list [.str s, d, .bool true]))).set i .no) b1 else .no
    | .xx _ _ none _ => .no
    | .nx e1 b1 => .nx e1 b1
    | .rt d b1 => .rt d b1
    | .no => .no

/-! ### defs -/
structure Fn where
  /-- the parameters behind the source of draws -/
  ps : Nat
  bx : Bool
  fr : Bool
  slots : Nat
  body : IS
inductive Fd where
  | code (f : Fn)
  | prim (g : List P → Bx → R P)
def startE (bx : Bool) (n : Nat) (as : List P) : Env := (if bx then [Sl.no] else []) ++ as.map Sl.v ++ List.replicate (n - as.length - (if bx then 1 else 0)) .no
def run (φ : Phi) (f : Fn) (as : List P) (b : Bx) : R P :=
  if as.length = f.ps then
    match ex φ f.body (startE f.bx f.slots as) b with
    | .nx _ b1 => .ok .none b1
    | .rt d b1 => .ok d b1
    | .xx _ c d b1 => .ex c d b1
    | .no => .no
  else .no
def fnN (T : Nat → Option Fd) : Nat → Phi
  | 0, _, _, _ => .no
  | k + 1, f, as, b => match T f with
    | some (.code f) => run (fnN T k) f as b
    | some (.prim g) => g as b
    | none => .no
end Dv
/-! text DQ -/
set_option Elab.async false
set_option linter.all false
set_option maxRecDepth 100000
set_option maxHeartbeats 4000000
namespace Dv
open PySem

/-! ### the defs of a text -/
structure DefD where
  x : Str
  st : Stmt
  N : List Str
  ps : List Str
  fn : Fn
def tblOf (DL : List DefD) : Nat → Option Fd := fun f => (DL[f]?).map fun d => .code d.fn
def fnsOf (DL : List DefD) : List (Str × Bool × Bool × Nat) := DL.map fun d => (d.x, d.fn.bx, d.fn.fr, d.ps.length)
structure Txt' where
  DL : List DefD
  blt : List Str
  con : List (Str × P)
  kws : List (Nat × Nat × List Str × List Nat)
  exs : List (Str × Nat × Str × String)
/-- the law's last statement -/
def lawRet (right box : Nat) : IS := .seq (.ret (.bi .all (.cons (.lc [2] (.callX right (.call box (.cons (.var 1) (.cons (.var 2) .nil))) .nil) (.nm 2) (.rng (.cons (.bi .len (.cons (.var 1) .nil)) .nil)) (.cst (.bool true))) .nil))) .nop
/-- the def of law, the places of its callees -/
structure LawD where
  st : Stmt
  s : Str
  c : Str
  k : Str
  top : Int
  hand : Nat
  box : Nat
  right : Nat
def okTrue (r : R P) : Bool := match r with
  | .ok (.bool true) _ => true
  | _ => false
theorem okTrue_of {r : R P} (h : okTrue r = true) : ∃ b, r = .ok (.bool true) b := by
  unfold okTrue at h
  split at h
  · exact ⟨_, rfl⟩
  · cases h
end Dv
/-! text KA_k07 -/
set_option Elab.async false
set_option linter.all false
set_option maxRecDepth 100000
set_option maxHeartbeats 4000000
namespace Lw
open PySem PySem.Spec L2 Dv
def topS (i : Nat) : Stmt := PySem.Challenge.pw_nettingpots_k07_nets_in_pots.main.body.getD i (.Pass ⟨0, 0, 0, 0⟩)
abbrev s0 : Stmt := topS 3
/-- set_of -/
def y0 : IS := .seq (.ret (.bi .tuple_ (.cons (.bi .sortset (.cons (.var 0) (.nil))) (.nil)))) (.nop)
def f0 : Fn := { ps := 1, bx := false, fr := false, slots := 1, body := y0 }
def d0 : DefD := { x := "set_of", st := s0, N := ["row"], ps := ["row"], fn := f0 }
abbrev s1 : Stmt := topS 5
/-- pots_of -/
def y1 : IS := .pots 1 2 3 4 (.call 0 (.cons (.var 0) (.nil))) 0
def f1 : Fn := { ps := 1, bx := false, fr := false, slots := 5, body := y1 }
def d1 : DefD := { x := "pots_of", st := s1, N := ["book", "found", "place", "pot", "places"], ps := ["book"], fn := f1 }
abbrev s2 : Stmt := topS 7
/-- people_of -/
def y2 : IS := .seq (.ret (.call 0 (.cons (.lc2 [2, 3] [3] (.var 3) (.nm 2) (.var 1) (.cst (.bool true)) (.nm 3) (.idx (.var 0) (.var 2)) (.cst (.bool true))) (.nil)))) (.nop)
def f2 : Fn := { ps := 2, bx := false, fr := false, slots := 4, body := y2 }
def d2 : DefD := { x := "people_of", st := s2, N := ["debts", "places", "place", "person"], ps := ["debts", "places"], fn := f2 }
abbrev s3 : Stmt := topS 8
/-- nets_of -/
def y3 : IS := .seq (.set 3 true (.dcomp [5] (.var 5) (.cst (.int 0)) (.nm 5) (.call 2 (.cons (.var 0) (.cons (.var 2) (.nil)))) (.cst (.bool true)))) (.seq (.forr (.nm 4) (.var 2) (.seq (.augx 3 (.idx (.idx (.var 0) (.var 4)) (.cst (.int 0))) .sub (.idx (.var 1) (.var 4))) (.seq (.augx 3 (.idx (.idx (.var 0) (.var 4)) (.cst (.int 1))) .add (.idx (.var 1) (.var 4))) (.nop)))) (.seq (.frz 3) (.seq (.ret (.var 3)) (.nop))))
def f3 : Fn := { ps := 3, bx := false, fr := false, slots := 6, body := y3 }
def d3 : DefD := { x := "nets_of", st := s3, N := ["debts", "amounts", "places", "found", "place", "person"], ps := ["debts", "amounts", "places"], fn := f3 }
abbrev s4 : Stmt := topS 10
/-- pot_nets -/
def y4 : IS := .seq (.set 4 false (.call 1 (.cons (.var 1) (.nil)))) (.seq (.iff (.not (.chain .le .lt (.cst (.int 0)) (.var 2) (.bi .len (.cons (.var 4) (.nil))))) (.seq (.raise 0 (some (.var 2))) (.nop)) (.nop)) (.seq (.sett (.nm 5) (.call 3 (.cons (.var 0) (.cons (.var 3) (.cons (.idx (.var 4) (.var 2)) (.nil)))))) (.seq (.ret (.bi .tuple_ (.cons (.lc [6] (.tup (.cons (.var 6) (.cons (.idx (.var 5) (.var 6)) (.nil)))) (.nm 6) (.bi .sorted (.cons (.var 5) (.nil))) (.cst (.bool true))) (.nil)))) (.nop))))
def f4 : Fn := { ps := 4, bx := false, fr := false, slots := 7, body := y4 }
def d4 : DefD := { x := "pot_nets", st := s4, N := ["debts", "book", "pot", "amounts", "lots", "found", "person"], ps := ["debts", "book", "pot", "amounts"], fn := f4 }
abbrev s5 : Stmt := topS 11
/-- table -/
def y5 : IS := .seq (.set 3 true (.lst (.nil))) (.seq (.forr (.nm 4) (.rng (.cons (.bi .len (.cons (.call 1 (.cons (.var 1) (.nil))) (.nil))) (.nil))) (.seq (.ext 3 (.lc [5, 6] (.tup (.cons (.var 4) (.cons (.var 5) (.cons (.var 6) (.nil))))) (.tp (.cons (.nm 5) (.cons (.nm 6) (.nil)))) (.call 4 (.cons (.var 0) (.cons (.var 1) (.cons (.var 4) (.cons (.var 2) (.nil)))))) (.cmp .ne (.var 6) (.cst (.int 0))))) (.nop))) (.seq (.ret (.ovar 3)) (.nop)))
def f5 : Fn := { ps := 3, bx := false, fr := true, slots := 7, body := y5 }
def d5 : DefD := { x := "table", st := s5, N := ["debts", "book", "amounts", "rows", "pot", "person", "net"], ps := ["debts", "book", "amounts"], fn := f5 }
abbrev s6 : Stmt := topS 13
/-- _law_box -/
def y6 : IS := .seq (.set 2 false (.ite (.cmp .lt (.var 1) (.bi .len (.cons (.var 0) (.nil)))) (.idx (.var 0) (.var 1)) (.cst (.int 0)))) (.seq (.ret (.lst (.cons (.bin .mul (.bi .abs (.cons (.var 2) (.nil))) (.bi .int_ (.cons (.cmp .ge (.bi .abs (.cons (.var 2) (.nil))) (.bin .pow (.cst (.int 10)) (.cst (.int 18)))) (.nil)))) (.cons (.bin .add (.bin .add (.bin .mod (.bi .int_ (.cons (.var 2) (.nil))) (.cst (.int 2305843009213693951))) (.bin .mul (.cst (.int 39373)) (.var 1))) (.cst (.int 1054307))) (.cons (.cst (.int 0)) (.nil)))))) (.nop))
def f6 : Fn := { ps := 2, bx := false, fr := true, slots := 3, body := y6 }
def d6 : DefD := { x := "_law_box", st := s6, N := ["_law_script", "_law_k", "_law_cell"], ps := ["_law_script", "_law_k"], fn := f6 }
abbrev s7 : Stmt := topS 14
/-- _law_take -/
def y7 : IS := .seq (.iff (.cmp .gt (.bget 0) (.cst (.int 0))) (.seq (.set 5 false (.bin .mod (.bi .int_ (.cons (.bget 0) (.nil))) (.var 1))) (.seq (.bset 0 (.bin .fdiv (.bget 0) (.var 1))) (.seq (.ret (.var 5)) (.nop)))) (.nop)) (.seq (.bset 2 (.bin .add (.bget 2) (.cst (.int 1)))) (.seq (.set 2 false (.bin .mod (.bi .int_ (.cons (.bin .mul (.bin .add (.bget 1) (.bin .mul (.cst (.int 48271)) (.bget 2))) (.bin .add (.cst (.int 39373)) (.bget 2))) (.nil))) (.cst (.int 2147483647)))) (.seq (.set 3 false (.bin .add (.bin .mod (.bi .int_ (.cons (.var 2) (.nil))) (.cst (.int 40009))) (.cst (.int 7)))) (.seq (.set 4 false (.bin .mod (.bi .int_ (.cons (.bin .mul (.bin .add (.bin .add (.var 2) (.bget 2)) (.bin .fdiv (.bget 1) (.cst (.int 1000003)))) (.var 3)) (.nil))) (.cst (.int 2147483629)))) (.seq (.ret (.bin .mod (.bi .int_ (.cons (.bin .fdiv (.bin .mod (.bi .int_ (.cons (.bin .add (.bin .mul (.var 4) (.cst (.int 48271))) (.var 2)) (.nil))) (.cst (.int 2147483587))) (.cst (.int 64))) (.nil))) (.var 1))) (.nop))))))
def f7 : Fn := { ps := 1, bx := true, fr := false, slots := 6, body := y7 }
def d7 : DefD := { x := "_law_take", st := s7, N := ["_law_box_here", "_law_below_so", "_law_once", "_law_far", "_law_twice", "_law_drawn"], ps := ["_law_box_here", "_law_below_so"], fn := f7 }
abbrev s8 : Stmt := topS 16
/-- _law_of -/
def y8 : IS := .seq (.ret (.idx (.var 1) (.callB 7 (.cons (.bi .len (.cons (.var 1) (.nil))) (.nil))))) (.nop)
def f8 : Fn := { ps := 1, bx := true, fr := false, slots := 2, body := y8 }
def d8 : DefD := { x := "_law_of", st := s8, N := ["_law_box_here", "_law_pool_so"], ps := ["_law_box_here", "_law_pool_so"], fn := f8 }
abbrev s9 : Stmt := topS 17
/-- _law_same -/
def y9 : IS := .seq (.iff (.isi .seq_ (.var 1)) (.seq (.iff (.or (.cmp .ne (.isi .list_ (.var 0)) (.isi .list_ (.var 1))) (.cmp .ne (.isi .tuple_ (.var 0)) (.isi .tuple_ (.var 1)))) (.seq (.ret (.cst (.bool false))) (.nop)) (.nop)) (.seq (.ret (.and (.cmp .eq (.bi .len (.cons (.var 0) (.nil))) (.bi .len (.cons (.var 1) (.nil)))) (.bi .all (.cons (.lc [2, 3] (.call 9 (.cons (.var 2) (.cons (.var 3) (.nil)))) (.tp (.cons (.nm 2) (.cons (.nm 3) (.nil)))) (.zip (.var 0) (.var 1)) (.cst (.bool true))) (.nil))))) (.nop))) (.nop)) (.seq (.iff (.or (.cmp .is_ (.var 1) (.cst .none)) (.isi .numstr (.var 1))) (.seq (.ret (.and (.cmp .eq (.var 0) (.var 1)) (.and (.cmp .eq (.isi .bool_ (.var 0)) (.isi .bool_ (.var 1))) (.cmp .eq (.cmp .is_ (.var 0) (.cst .none)) (.cmp .is_ (.var 1) (.cst .none)))))) (.nop)) (.nop)) (.seq (.ret (.and (.isi .int_ (.var 0)) (.and (.not (.isi .bool_ (.var 0))) (.cmp .eq (.var 0) (.var 1))))) (.nop)))
def f9 : Fn := { ps := 2, bx := false, fr := false, slots := 4, body := y9 }
def d9 : DefD := { x := "_law_same", st := s9, N := ["_law_got", "_law_due", "_law_mine", "_law_its"], ps := ["_law_got", "_law_due"], fn := f9 }
abbrev s10 : Stmt := topS 18
/-- _law_lists -/
def y10 : IS := .seq (.ret (.ite (.isi .seq_ (.var 0)) (.lc [1] (.call 10 (.cons (.var 1) (.nil))) (.nm 1) (.var 0) (.cst (.bool true))) (.var 0))) (.nop)
def f10 : Fn := { ps := 1, bx := false, fr := false, slots := 2, body := y10 }
def d10 : DefD := { x := "_law_lists", st := s10, N := ["_law_matter_so", "_law_bit"], ps := ["_law_matter_so"], fn := f10 }
abbrev s11 : Stmt := topS 19
/-- _law_debts -/
def y11 : IS := .seq (.par2 2 false 3 true (.slc (.lst (.cons (.cst (.str "a")) (.cons (.cst (.str "ab")) (.cons (.cst (.str "b")) (.cons (.cst (.str "c")) (.cons (.cst (.str "zoe")) (.nil))))))) (.nil) (.bin .add (.cst (.int 2)) (.callB 7 (.cons (.cst (.int 4)) (.nil))))) (.lst (.nil))) (.seq (.forr (.nm 4) (.rng (.cons (.callB 7 (.cons (.bin .add (.var 1) (.cst (.int 1))) (.nil))) (.nil))) (.seq (.sett (.nm 5) (.callB 8 (.cons (.var 2) (.nil)))) (.seq (.app 3 (.tup (.cons (.var 5) (.cons (.callB 8 (.cons (.lc [6] (.var 6) (.nm 6) (.var 2) (.cmp .ne (.var 6) (.var 5))) (.nil))) (.nil))))) (.nop)))) (.seq (.ret (.bi .tuple_ (.cons (.ovar 3) (.nil)))) (.nop)))
def f11 : Fn := { ps := 1, bx := true, fr := false, slots := 7, body := y11 }
def d11 : DefD := { x := "_law_debts", st := s11, N := ["_law_box_here", "_law_most_so", "_law_tags_so", "_law_found", "_law_lap", "_law_one_so", "_law_tag"], ps := ["_law_box_here", "_law_most_so"], fn := f11 }
abbrev s12 : Stmt := topS 20
/-- _law_sums -/
def y12 : IS := .seq (.ret (.bi .tuple_ (.cons (.lc [2] (.callB 8 (.cons (.lst (.cons (.cst (.int 0)) (.cons (.cst (.int 1)) (.cons (.cst (.int 1)) (.cons (.cst (.int 2)) (.cons (.cst (.int 3)) (.cons (.cst (.int 5)) (.cons (.cst (.int 9)) (.cons (.bin .pow (.cst (.int 10)) (.cst (.int 30))) (.nil)))))))))) (.nil))) (.nm 2) (.var 1) (.cst (.bool true))) (.nil)))) (.nop)
def f12 : Fn := { ps := 1, bx := true, fr := false, slots := 3, body := y12 }
def d12 : DefD := { x := "_law_sums", st := s12, N := ["_law_box_here", "_law_debts_so", "_law_own"], ps := ["_law_box_here", "_law_debts_so"], fn := f12 }
abbrev s13 : Stmt := topS 21
/-- _law_book -/
def y13 : IS := .seq (.set 2 true (.lst (.nil))) (.seq (.forr (.nm 3) (.rng (.cons (.var 1) (.nil))) (.seq (.app 2 (.callB 7 (.cons (.bin .add (.bi .max (.cons (.bin .add (.lst (.cons (.neg (.cst (.int 1))) (.nil))) (.ovar 2)) (.nil))) (.cst (.int 2))) (.nil)))) (.nop))) (.seq (.ret (.bi .tuple_ (.cons (.ovar 2) (.nil)))) (.nop)))
def f13 : Fn := { ps := 1, bx := true, fr := false, slots := 4, body := y13 }
def d13 : DefD := { x := "_law_book", st := s13, N := ["_law_box_here", "_law_many_so", "_law_found", "_law_lap"], ps := ["_law_box_here", "_law_many_so"], fn := f13 }
abbrev s14 : Stmt := topS 22
/-- _law_lots -/
def y14 : IS := .seq (.ret (.lc [1] (.lc [2] (.var 2) (.nm 2) (.rng (.cons (.bi .len (.cons (.var 0) (.nil))) (.nil))) (.cmp .eq (.idx (.var 0) (.var 2)) (.var 1))) (.nm 1) (.rng (.cons (.bi .lenset (.cons (.var 0) (.nil))) (.nil))) (.cst (.bool true)))) (.nop)
def f14 : Fn := { ps := 1, bx := false, fr := false, slots := 3, body := y14 }
def d14 : DefD := { x := "_law_lots", st := s14, N := ["_law_mine", "_law_pot_so", "_law_k"], ps := ["_law_mine"], fn := f14 }
abbrev s15 : Stmt := topS 23
/-- _law_folk -/
def y15 : IS := .seq (.set 2 false (.lst (.nil))) (.seq (.forr (.nm 3) (.var 1) (.seq (.set 2 false (.bin .add (.var 2) (.bi .list_ (.cons (.idx (.var 0) (.var 3)) (.nil))))) (.nop))) (.seq (.ret (.bi .sortset (.cons (.var 2) (.nil)))) (.nop)))
def f15 : Fn := { ps := 2, bx := false, fr := false, slots := 4, body := y15 }
def d15 : DefD := { x := "_law_folk", st := s15, N := ["_law_debts_so", "_law_some", "_law_found", "_law_k"], ps := ["_law_debts_so", "_law_some"], fn := f15 }
abbrev s16 : Stmt := topS 24
/-- _law_net -/
def y16 : IS := .seq (.set 4 false (.bi .sum (.cons (.lc [5] (.idx (.var 1) (.var 5)) (.nm 5) (.var 2) (.cmp .eq (.idx (.idx (.var 0) (.var 5)) (.cst (.int 1))) (.var 3))) (.nil)))) (.seq (.ret (.bin .sub (.var 4) (.bi .sum (.cons (.lc [5] (.idx (.var 1) (.var 5)) (.nm 5) (.var 2) (.cmp .eq (.idx (.idx (.var 0) (.var 5)) (.cst (.int 0))) (.var 3))) (.nil))))) (.nop))
def f16 : Fn := { ps := 4, bx := false, fr := false, slots := 6, body := y16 }
def d16 : DefD := { x := "_law_net", st := s16, N := ["_law_debts_so", "_law_sums_so", "_law_some", "_law_tag", "_law_comes_so", "_law_k"], ps := ["_law_debts_so", "_law_sums_so", "_law_some", "_law_tag"], fn := f16 }
abbrev s17 : Stmt := topS 25
/-- _law_nets -/
def y17 : IS := .seq (.ret (.lc [3] (.tup (.cons (.var 3) (.cons (.call 16 (.cons (.var 0) (.cons (.var 1) (.cons (.var 2) (.cons (.var 3) (.nil)))))) (.nil)))) (.nm 3) (.call 15 (.cons (.var 0) (.cons (.var 2) (.nil)))) (.cst (.bool true)))) (.nop)
def f17 : Fn := { ps := 3, bx := false, fr := false, slots := 4, body := y17 }
def d17 : DefD := { x := "_law_nets", st := s17, N := ["_law_debts_so", "_law_sums_so", "_law_some", "_law_tag"], ps := ["_law_debts_so", "_law_sums_so", "_law_some"], fn := f17 }
abbrev s18 : Stmt := topS 26
/-- _law_heard -/
def y18 : IS := .seq (.sett (.tp (.cons (.nm 4) (.cons (.nm 5) (.nil)))) (.tup (.cons (.cst .none) (.cons (.cst .none) (.nil))))) (.seq (.tryx 6 (.seq (.set 5 false (.call 4 (.cons (.var 0) (.cons (.var 1) (.cons (.var 2) (.cons (.var 3) (.nil))))))) (.nop)) 0 4 "none") (.seq (.ret (.ite (.cmp .is_ (.var 4) (.cst .none)) (.var 5) (.var 4))) (.nop)))
def f18 : Fn := { ps := 4, bx := false, fr := false, slots := 7, body := y18 }
def d18 : DefD := { x := "_law_heard", st := s18, N := ["_law_debts_so", "_law_mine", "_law_pot_so", "_law_sums_so", "_law_caught", "_law_told_so", "error"], ps := ["_law_debts_so", "_law_mine", "_law_pot_so", "_law_sums_so"], fn := f18 }
abbrev s19 : Stmt := topS 27
/-- _law_by_hand_right -/
def y19 : IS := .seq (.sett (.tp (.cons (.nm 0) (.cons (.nm 1) (.cons (.nm 2) (.nil))))) (.tup (.cons (.tup (.cons (.tup (.cons (.cst (.str "a")) (.cons (.cst (.str "b")) (.nil)))) (.cons (.tup (.cons (.cst (.str "b")) (.cons (.cst (.str "c")) (.nil)))) (.cons (.tup (.cons (.cst (.str "c")) (.cons (.cst (.str "a")) (.nil)))) (.nil))))) (.cons (.tup (.cons (.cst (.int 10)) (.cons (.cst (.int 4)) (.cons (.cst (.int 3)) (.nil))))) (.cons (.bin .pow (.cst (.int 10)) (.cst (.int 30))) (.nil)))))) (.seq (.set 3 true (.lc [9] (.call 18 (.cons (.var 0) (.cons (.tup (.cons (.cst (.int 0)) (.cons (.cst (.int 1)) (.cons (.cst (.int 0)) (.nil))))) (.cons (.var 9) (.cons (.var 1) (.nil)))))) (.nm 9) (.tup (.cons (.cst (.int 0)) (.cons (.cst (.int 1)) (.cons (.cst (.int 2)) (.cons (.neg (.cst (.int 1))) (.nil)))))) (.cst (.bool true)))) (.seq (.app 3 (.call 18 (.cons (.var 0) (.cons (.tup (.cons (.cst (.int 0)) (.cons (.cst (.int 0)) (.cons (.cst (.int 0)) (.nil))))) (.cons (.cst (.int 0)) (.cons (.var 1) (.nil))))))) (.seq (.set 4 true (.lst (.cons (.tup (.cons (.tup (.cons (.cst (.str "a")) (.cons (.neg (.cst (.int 7))) (.nil)))) (.cons (.tup (.cons (.cst (.str "b")) (.cons (.cst (.int 10)) (.nil)))) (.cons (.tup (.cons (.cst (.str "c")) (.cons (.neg (.cst (.int 3))) (.nil)))) (.nil))))) (.cons (.tup (.cons (.tup (.cons (.cst (.str "b")) (.cons (.neg (.cst (.int 4))) (.nil)))) (.cons (.tup (.cons (.cst (.str "c")) (.cons (.cst (.int 4)) (.nil)))) (.nil)))) (.cons (.lst (.cons (.cst (.str "none")) (.cons (.cst (.int 2)) (.cons (.cst (.bool true)) (.nil))))) (.cons (.lst (.cons (.cst (.str "none")) (.cons (.neg (.cst (.int 1))) (.cons (.cst (.bool true)) (.nil))))) (.nil))))))) (.seq (.app 4 (.tup (.cons (.tup (.cons (.cst (.str "a")) (.cons (.neg (.cst (.int 7))) (.nil)))) (.cons (.tup (.cons (.cst (.str "b")) (.cons (.cst (.int 6)) (.nil)))) (.cons (.tup (.cons (.cst (.str "c")) (.cons (.cst (.int 1)) (.nil)))) (.nil)))))) (.seq (.set 3 true (.bin .add (.ovar 3) (.lst (.cons (.call 18 (.cons (.tup (.nil)) (.cons (.tup (.nil)) (.cons (.cst (.int 0)) (.cons (.tup (.nil)) (.nil)))))) (.cons (.call 5 (.cons (.var 0) (.cons (.tup (.cons (.cst (.int 0)) (.cons (.cst (.int 0)) (.cons (.cst (.int 0)) (.nil))))) (.cons (.var 1) (.nil))))) (.cons (.call 5 (.cons (.var 0) (.cons (.tup (.cons (.cst (.int 0)) (.cons (.cst (.int 1)) (.cons (.cst (.int 2)) (.nil))))) (.cons (.var 1) (.nil))))) (.nil))))))) (.seq (.set 4 true (.bin .add (.ovar 4) (.lst (.cons (.lst (.cons (.cst (.str "none")) (.cons (.cst (.int 0)) (.cons (.cst (.bool true)) (.nil))))) (.cons (.lst (.cons (.tup (.cons (.cst (.int 0)) (.cons (.cst (.str "a")) (.cons (.neg (.cst (.int 7))) (.nil))))) (.cons (.tup (.cons (.cst (.int 0)) (.cons (.cst (.str "b")) (.cons (.cst (.int 6)) (.nil))))) (.cons (.tup (.cons (.cst (.int 0)) (.cons (.cst (.str "c")) (.cons (.cst (.int 1)) (.nil))))) (.nil))))) (.nil)))))) (.seq (.app 4 (.lst (.cons (.tup (.cons (.cst (.int 0)) (.cons (.cst (.str "a")) (.cons (.neg (.cst (.int 10))) (.nil))))) (.cons (.tup (.cons (.cst (.int 0)) (.cons (.cst (.str "b")) (.cons (.cst (.int 10)) (.nil))))) (.cons (.tup (.cons (.cst (.int 1)) (.cons (.cst (.str "b")) (.cons (.neg (.cst (.int 4))) (.nil))))) (.cons (.tup (.cons (.cst (.int 1)) (.cons (.cst (.str "c")) (.cons (.cst (.int 4)) (.nil))))) (.cons (.tup (.cons (.cst (.int 2)) (.cons (.cst (.str "a")) (.cons (.cst (.int 3)) (.nil))))) (.cons (.tup (.cons (.cst (.int 2)) (.cons (.cst (.str "c")) (.cons (.neg (.cst (.int 3))) (.nil))))) (.nil))))))))) (.seq (.set 3 true (.bin .add (.ovar 3) (.lst (.cons (.call 5 (.cons (.var 0) (.cons (.tup (.cons (.cst (.int 0)) (.cons (.cst (.int 0)) (.cons (.cst (.int 0)) (.nil))))) (.cons (.tup (.cons (.cst (.int 5)) (.cons (.cst (.int 5)) (.cons (.cst (.int 5)) (.nil))))) (.nil))))) (.cons (.call 5 (.cons (.var 0) (.cons (.tup (.cons (.cst (.int 0)) (.cons (.cst (.int 0)) (.cons (.cst (.int 1)) (.nil))))) (.cons (.tup (.cons (.cst (.int 5)) (.cons (.cst (.int 5)) (.cons (.cst (.int 0)) (.nil))))) (.nil))))) (.cons (.call 5 (.cons (.tup (.nil)) (.cons (.tup (.nil)) (.cons (.tup (.nil)) (.nil))))) (.nil))))))) (.seq (.set 4 true (.bin .add (.ovar 4) (.lst (.cons (.lst (.nil)) (.cons (.lst (.cons (.tup (.cons (.cst (.int 0)) (.cons (.cst (.str "a")) (.cons (.neg (.cst (.int 5))) (.nil))))) (.cons (.tup (.cons (.cst (.int 0)) (.cons (.cst (.str "c")) (.cons (.cst (.int 5)) (.nil))))) (.nil)))) (.cons (.lst (.nil)) (.nil))))))) (.seq (.app 3 (.call 18 (.cons (.var 0) (.cons (.tup (.cons (.cst (.int 0)) (.cons (.cst (.int 0)) (.cons (.cst (.int 1)) (.nil))))) (.cons (.cst (.int 0)) (.cons (.tup (.cons (.cst (.int 5)) (.cons (.cst (.int 5)) (.cons (.cst (.int 0)) (.nil))))) (.nil))))))) (.seq (.app 4 (.tup (.cons (.tup (.cons (.cst (.str "a")) (.cons (.neg (.cst (.int 5))) (.nil)))) (.cons (.tup (.cons (.cst (.str "b")) (.cons (.cst (.int 0)) (.nil)))) (.cons (.tup (.cons (.cst (.str "c")) (.cons (.cst (.int 5)) (.nil)))) (.nil)))))) (.seq (.set 5 false (.bin .add (.bin .mul (.tup (.cons (.tup (.cons (.cst (.str "a")) (.cons (.cst (.str "b")) (.nil)))) (.nil))) (.cst (.int 4))) (.bin .mul (.tup (.cons (.tup (.cons (.cst (.str "b")) (.cons (.cst (.str "a")) (.nil)))) (.nil))) (.cst (.int 4))))) (.seq (.set 6 false (.tup (.cons (.cst (.int 0)) (.cons (.cst (.int 1)) (.cons (.cst (.int 2)) (.cons (.cst (.int 0)) (.cons (.cst (.int 1)) (.cons (.cst (.int 2)) (.cons (.cst (.int 0)) (.cons (.cst (.int 1)) (.nil))))))))))) (.seq (.set 3 true (.bin .add (.ovar 3) (.lst (.cons (.call 5 (.cons (.var 5) (.cons (.var 6) (.cons (.tup (.cons (.var 2) (.cons (.cst (.int 1)) (.cons (.cst (.int 2)) (.cons (.var 2) (.cons (.cst (.int 3)) (.cons (.cst (.int 4)) (.cons (.var 2) (.cons (.cst (.int 5)) (.nil)))))))))) (.nil))))) (.cons (.call 18 (.cons (.var 5) (.cons (.var 6) (.cons (.cst (.int 2)) (.cons (.bin .mul (.tup (.cons (.cst (.int 1)) (.nil))) (.cst (.int 8))) (.nil)))))) (.nil)))))) (.seq (.app 4 (.lst (.cons (.tup (.cons (.cst (.int 0)) (.cons (.cst (.str "a")) (.cons (.bin .sub (.cst (.int 0)) (.var 2)) (.nil))))) (.cons (.tup (.cons (.cst (.int 0)) (.cons (.cst (.str "b")) (.cons (.var 2) (.nil))))) (.cons (.tup (.cons (.cst (.int 1)) (.cons (.cst (.str "a")) (.cons (.cst (.int 7)) (.nil))))) (.cons (.tup (.cons (.cst (.int 1)) (.cons (.cst (.str "b")) (.cons (.neg (.cst (.int 7))) (.nil))))) (.cons (.tup (.cons (.cst (.int 2)) (.cons (.cst (.str "a")) (.cons (.cst (.int 2)) (.nil))))) (.cons (.tup (.cons (.cst (.int 2)) (.cons (.cst (.str "b")) (.cons (.neg (.cst (.int 2))) (.nil))))) (.nil))))))))) (.seq (.app 4 (.tup (.cons (.tup (.cons (.cst (.str "a")) (.cons (.cst (.int 0)) (.nil)))) (.cons (.tup (.cons (.cst (.str "b")) (.cons (.cst (.int 0)) (.nil)))) (.nil))))) (.seq (.set 7 true (.call 5 (.cons (.var 0) (.cons (.tup (.cons (.cst (.int 0)) (.cons (.cst (.int 0)) (.cons (.cst (.int 0)) (.nil))))) (.cons (.var 1) (.nil)))))) (.seq (.app 7 (.cst (.str "more"))) (.seq (.set 8 false (.lst (.cons (.call 10 (.cons (.var 0) (.nil))) (.cons (.lst (.cons (.cst (.int 0)) (.cons (.cst (.int 0)) (.cons (.cst (.int 0)) (.nil))))) (.cons (.bi .list_ (.cons (.var 1) (.nil))) (.nil)))))) (.seq (.set 3 true (.bin .add (.ovar 3) (.lst (.cons (.call 5 (.cons (.var 0) (.cons (.tup (.cons (.cst (.int 0)) (.cons (.cst (.int 0)) (.cons (.cst (.int 0)) (.nil))))) (.cons (.var 1) (.nil))))) (.cons (.callK 5 [2, 1, 0] (.nil) (.cons (.idx (.var 8) (.cst (.int 2))) (.cons (.idx (.var 8) (.cst (.int 1))) (.cons (.idx (.var 8) (.cst (.int 0))) (.nil))))) (.nil)))))) (.seq (.set 3 true (.bin .add (.ovar 3) (.lst (.cons (.callK 4 [3, 2, 1, 0] (.nil) (.cons (.idx (.var 8) (.cst (.int 2))) (.cons (.cst (.int 0)) (.cons (.idx (.var 8) (.cst (.int 1))) (.cons (.idx (.var 8) (.cst (.int 0))) (.nil)))))) (.cons (.var 8) (.nil)))))) (.seq (.frz 3) (.seq (.ret (.call 9 (.cons (.var 3) (.cons (.bin .add (.ovar 4) (.lst (.cons (.idx (.ovar 4) (.cst (.int 6))) (.cons (.idx (.ovar 4) (.cst (.int 6))) (.cons (.idx (.ovar 4) (.cst (.int 4))) (.cons (.lst (.cons (.call 10 (.cons (.var 0) (.nil))) (.cons (.lst (.cons (.cst (.int 0)) (.cons (.cst (.int 0)) (.cons (.cst (.int 0)) (.nil))))) (.cons (.bi .list_ (.cons (.var 1) (.nil))) (.nil))))) (.nil))))))) (.nil))))) (.nop))))))))))))))))))))))))
def f19 : Fn := { ps := 0, bx := false, fr := false, slots := 10, body := y19 }
def d19 : DefD := { x := "_law_by_hand_right", st := s19, N := ["_law_some", "_law_sums_so", "_law_far", "_law_got", "_law_due", "_law_wide_so", "_law_pots_so", "_law_heard_so", "_law_soft", "_law_own"], ps := [], fn := f19 }
abbrev s20 : Stmt := topS 28
/-- _law_case_right -/
def y20 : IS := .seq (.set 1 false (.callB 11 (.cons (.cst (.int 8)) (.nil)))) (.seq (.par3 2 false 3 false 4 false (.callB 12 (.cons (.var 1) (.nil))) (.callB 13 (.cons (.bi .len (.cons (.var 1) (.nil))) (.nil))) (.lst (.nil))) (.seq (.forr (.tp (.cons (.nm 5) (.cons (.nm 6) (.nil)))) (.enm (.call 14 (.cons (.var 3) (.nil)))) (.seq (.set 9 false (.bi .tuple_ (.cons (.call 17 (.cons (.var 1) (.cons (.var 2) (.cons (.var 6) (.nil))))) (.nil)))) (.seq (.iff (.not (.call 9 (.cons (.call 18 (.cons (.var 1) (.cons (.var 3) (.cons (.var 5) (.cons (.var 2) (.nil)))))) (.cons (.var 9) (.nil))))) (.seq (.ret (.cst (.bool false))) (.nop)) (.nop)) (.seq (.set 4 false (.bin .add (.var 4) (.lc [10] (.tup (.cons (.var 5) (.cons (.idx (.var 10) (.cst (.int 0))) (.cons (.idx (.var 10) (.cst (.int 1))) (.nil))))) (.nm 10) (.var 9) (.cmp .ne (.idx (.var 10) (.cst (.int 1))) (.cst (.int 0)))))) (.nop))))) (.seq (.set 7 false (.bi .len (.cons (.call 14 (.cons (.var 3) (.nil))) (.nil)))) (.seq (.iff (.not (.call 9 (.cons (.call 18 (.cons (.var 1) (.cons (.var 3) (.cons (.var 7) (.cons (.var 2) (.nil)))))) (.cons (.lst (.cons (.cst (.str "none")) (.cons (.var 7) (.cons (.cst (.bool true)) (.nil))))) (.nil))))) (.seq (.ret (.cst (.bool false))) (.nop)) (.nop)) (.seq (.set 8 false (.lst (.cons (.call 5 (.cons (.var 1) (.cons (.var 3) (.cons (.var 2) (.nil))))) (.cons (.call 5 (.cons (.call 10 (.cons (.var 1) (.nil))) (.cons (.bi .list_ (.cons (.var 3) (.nil))) (.cons (.var 2) (.nil))))) (.nil))))) (.seq (.ret (.call 9 (.cons (.var 8) (.cons (.lst (.cons (.var 4) (.cons (.var 4) (.nil)))) (.nil))))) (.nop)))))))
def f20 : Fn := { ps := 0, bx := true, fr := false, slots := 11, body := y20 }
def d20 : DefD := { x := "_law_case_right", st := s20, N := ["_law_box_here", "_law_debts_so", "_law_sums_so", "_law_mine", "_law_rows_so", "_law_k", "_law_own", "_law_many_so", "_law_got", "_law_due", "_law_bit"], ps := ["_law_box_here"], fn := f20 }
abbrev s21 : Stmt := topS 29
/-- _law_right -/
def y21 : IS := .seq (.ret (.bi .all (.cons (.lc [1] (.callB 20 (.nil)) (.nm 1) (.rng (.cons (.cst (.int 6)) (.nil))) (.cst (.bool true))) (.nil)))) (.nop)
def f21 : Fn := { ps := 0, bx := true, fr := false, slots := 2, body := y21 }
def d21 : DefD := { x := "_law_right", st := s21, N := ["_law_box_here", "_law_turn"], ps := ["_law_box_here"], fn := f21 }
def T : Txt' where
  DL := [d0, d1, d2, d3, d4, d5, d6, d7, d8, d9, d10, d11, d12, d13, d14, d15, d16, d17, d18, d19, d20, d21]
  blt := ["LookupError", "abs", "all", "bool", "enumerate", "int", "isinstance", "len", "list", "max", "range", "set", "sorted", "str", "sum", "tuple", "zip"]
  con := []
  kws := [(5, 0, ["amounts", "book", "debts"], [2, 1, 0]), (4, 0, ["amounts", "pot", "book", "debts"], [3, 2, 1, 0])]
  exs := [("NoPot", 0, "pot", "LookupError")]
abbrev sLaw : Stmt := topS 30
abbrev sCells : Stmt := topS 15
def lw : LawD := { st := sLaw, s := "_law_script", c := "_law_cells_here", k := "_law_k", top := 3, hand := 19, box := 6, right := 21 }
abbrev φ (k : Nat) : Phi := fnN (tblOf T.DL) k
end Lw
/-! text D1 -/
set_option Elab.async false
set_option linter.all false
set_option maxRecDepth 100000
set_option maxHeartbeats 4000000
namespace Dv
open PySem PySem.Spec L2

/-! ### data over a frozen part of the heap -/
def keyD : Key → P
  | .inl i => .int i
  | .inr x => .str x
mutual
inductive Rp (F : Hp) : V → P → Prop
  | non : Rp F .non .none
  | bl (b : Bool) : Rp F (.bl b) (.bool b)
  | int (i : Int) : Rp F (.int i) (.int i)
  | str (x : Str) : Rp F (.str x) (.str x)
  | lst {a : Addr} {vs : List V} {ds : List P} : F a = some (.lst vs) → RpA F vs ds → Rp F (.ref a) (.list ds)
  | tup {a : Addr} {vs : List V} {ds : List P} : F a = some (.tup vs) → RpA F vs ds → Rp F (.ref a) (.tuple ds)
  | dct {a : Addr} {o : HO} {ds : List (P × P)} : F a = some o → DcO F o ds → Rp F (.ref a) (.dict ds)
inductive RpA (F : Hp) : List V → List P → Prop
  | nil : RpA F [] []
  | cons {v : V} {vs : List V} {d : P} {ds : List P} : Rp F v d → RpA F vs ds → RpA F (v :: vs) (d :: ds)
inductive RpK (F : Hp) : List (Key × V) → List (P × P) → Prop
  | nil : RpK F [] []
  | cons {k : Key} {v : V} {vs : List (Key × V)} {d : P} {ds : List (P × P)} : Rp F v d → RpK F vs ds → RpK F ((k, v) :: vs) ((keyD k, d) :: ds)
inductive RpT (F : Hp) : List (List Key × V) → List (P × P) → Prop
  | nil : RpT F [] []
  | cons {k : List Key} {v : V} {vs : List (List Key × V)} {d : P} {ds : List (P × P)} : Rp F v d → RpT F vs ds → RpT F ((k, v) :: vs) ((.tuple (k.map keyD), d) :: ds)
inductive DcO (F : Hp) : HO → List (P × P) → Prop
  | k {kvs : List (Key × V)} {ds : List (P × P)} : RpK F kvs ds → DcO F (.dK kvs) ds
  | t {kvs : List (List Key × V)} {ds : List (P × P)} : RpT F kvs ds → DcO F (.dT kvs) (tMark :: ds)
  | kl {od : Obj} {kvs : List (Key × V)} {ds : List (P × P)} : RpK F kvs ds → DcO F (.frz od (.dK kvs)) (lMark :: ds)
  | tl {od : Obj} {kvs : List (List Key × V)} {ds : List (P × P)} : RpT F kvs ds → DcO F (.frz od (.dT kvs)) (lMark :: tMark :: ds)
end
mutual
theorem Rp.mono {F F' : Hp} (h : Same F F') : ∀ {v : V} {d : P}, Rp F v d → Rp F' v d
  | _, _, .non => .non
  | _, _, .bl b => .bl b
  | _, _, .int i => .int i
  | _, _, .str x => .str x
  | _, _, .lst e r => .lst (h _ _ e) (RpA.mono h r)
  | _, _, .tup e r => .tup (h _ _ e) (RpA.mono h r)
  | _, _, .dct e r => .dct (h _ _ e) (DcO.mono h r)
theorem RpA.mono {F F' : Hp} (h : Same F F') : ∀ {vs : List V} {ds : List P}, RpA F vs ds → RpA F' vs ds
  | _, _, .nil => .nil
  | _, _, .cons r t => .cons (Rp.mono h r) (RpA.mono h t)
theorem RpK.mono {F F' : Hp} (h : Same F F') : ∀ {vs : List (Key × V)} {ds : List (P × P)}, RpK F vs ds → RpK F' vs ds
  | _, _, .nil => .nil
  | _, _, .cons r t => .cons (Rp.mono h r) (RpK.mono h t)
theorem RpT.mono {F F' : Hp} (h : Same F F') : ∀ {vs : List (List Key × V)} {ds : List (P × P)}, RpT F vs ds → RpT F' vs ds
  | _, _, .nil => .nil
  | _, _, .cons r t => .cons (Rp.mono h r) (RpT.mono h t)
theorem DcO.mono {F F' : Hp} (h : Same F F') : ∀ {o : HO} {ds : List (P × P)}, DcO F o ds → DcO F' o ds
  | _, _, .k r => .k (RpK.mono h r)
  | _, _, .t r => .t (RpT.mono h r)
  | _, _, .kl r => .kl (RpK.mono h r)
  | _, _, .tl r => .tl (RpT.mono h r)
end
mutual
theorem Rp.dp {K : PySem.W.Frag} {F H : Hp} (h : Same F H) : ∀ {v : V} {d : P}, Rp F v d → noD d = true → Dp K H v d
  | _, _, .non, _ => .non
  | _, _, .bl b, _ => .bl b
  | _, _, .int i, _ => .int i
  | _, _, .str x, _ => .str x
  | _, _, .lst (ds := ds) e r, n => .lst (SqL.of (h _ _ e)) (RpA.dp h r (show noDA ds = true from n))
  | _, _, .tup (ds := ds) e r, n => .tup (SqT.of (h _ _ e)) (RpA.dp h r (show noDA ds = true from n))
  | _, _, .dct e r, n => nomatch (show false = true from n)
theorem RpA.dp {K : PySem.W.Frag} {F H : Hp} (h : Same F H) : ∀ {vs : List V} {ds : List P}, RpA F vs ds → noDA ds = true → DpAll K H vs ds
  | _, _, .nil, _ => .nil
  | _, _, .cons (d := d) (ds := ds) r t, n => .cons (Rp.dp h r (Bool.and_eq_true_iff.mp (show (noD d && noDA ds) = true from n)).1) (RpA.dp h t (Bool.and_eq_true_iff.mp (show (noD d && noDA ds) = true from n)).2)
end
theorem RpA.length {F : Hp} : ∀ {vs : List V} {ds : List P}, RpA F vs ds → vs.length = ds.length
  | _, _, .nil => rfl
  | _, _, .cons _ t => congrArg (· + 1) t.length
theorem RpA.get {F : Hp} : ∀ {vs : List V} {ds : List P} {i : Nat} {d : P}, RpA F vs ds → ds[i]? = some d → ∃ v, vs[i]? = some v ∧ Rp F v d
  | _, _, _, _, .nil, e => by simp at e
  | _, _, 0, _, .cons r _, e => by
    simp at e
    subst e
    exact ⟨_, rfl, r⟩
  | _, _, i + 1, _, .cons _ t, e => by
    obtain ⟨v, h1, h2⟩ := RpA.get (i := i) t (by simpa using e)
    exact ⟨v, by simpa using h1, h2⟩
theorem RpA.append {F : Hp} : ∀ {vs ws : List V} {ds es : List P}, RpA F vs ds → RpA F ws es → RpA F (vs ++ ws) (ds ++ es)
  | _, _, _, _, .nil, s => s
  | _, _, _, _, .cons r t, s => .cons r (RpA.append t s)
theorem RpA.set {F : Hp} {v : V} {d : P} (r : Rp F v d) : ∀ {vs : List V} {ds : List P} (i : Nat), RpA F vs ds → RpA F (vs.set i v) (ds.set i d)
  | _, _, _, .nil => .nil
  | _, _, 0, .cons _ t => .cons r t
  | _, _, i + 1, .cons q t => .cons q (RpA.set r i t)
theorem RpA.drop {F : Hp} : ∀ {vs : List V} {ds : List P} (n : Nat), RpA F vs ds → RpA F (vs.drop n) (ds.drop n)
  | _, _, 0, r => r
  | _, _, _ + 1, .nil => .nil
  | _, _, n + 1, .cons _ t => RpA.drop n t
theorem RpA.take {F : Hp} : ∀ {vs : List V} {ds : List P} (n : Nat), RpA F vs ds → RpA F (vs.take n) (ds.take n)
  | _, _, 0, _ => .nil
  | _, _, _ + 1, .nil => .nil
  | _, _, n + 1, .cons r t => .cons r (RpA.take n t)
theorem RpA.reverse {F : Hp} : ∀ {vs : List V} {ds : List P}, RpA F vs ds → RpA F vs.reverse ds.reverse
  | _, _, .nil => .nil
  | _, _, .cons r t => by
    rw [List.reverse_cons, List.reverse_cons]
    exact (RpA.reverse t).append (.cons r .nil)

mutual
theorem noD_can : ∀ d : P, d.canLay0 = true → noD d = true
  | .none, _ => rfl
  | .bool _, _ => rfl
  | .int _, _ => rfl
  | .str _, _ => rfl
  | .list xs, h => noDA_can xs h
  | .tuple xs, h => noDA_can xs h
  | .dict _, h => h
theorem noDA_can : ∀ ds : List P, PyData.canLayAll0 ds = true → noDA ds = true
  | [], _ => rfl
  | x :: xs, h => by
    have h : (x.canLay0 && PyData.canLayAll0 xs) = true := h
    rw [Bool.and_eq_true] at h
    show (noD x && noDA xs) = true
    rw [noD_can x h.1, noDA_can xs h.2]
    rfl
end
theorem noD_shaped {d : P} (h : SeqAt.shaped d = true) : noD d = true := noD_can d (SeqAt.canLay_of_shaped h)
mutual
theorem noD_alike : ∀ d : P, PySem.W.alike d d = true → noD d = true
  | .none, _ => rfl
  | .bool _, _ => rfl
  | .int _, _ => rfl
  | .str _, _ => rfl
  | .list xs, h => noDA_alike xs h
  | .tuple xs, h => noDA_alike xs h
  | .dict _, h => nomatch (show false = true from h)
theorem noDA_alike : ∀ ds : List P, PySem.W.alikeAll ds ds = true → noDA ds = true
  | [], _ => rfl
  | x :: xs, h => by
    have h : (PySem.W.alike x x && PySem.W.alikeAll xs xs) = true := h
    rw [Bool.and_eq_true] at h
    show (noD x && noDA xs) = true
    rw [noD_alike x h.1, noDA_alike xs h.2]
    rfl
end
/-! ### steps -/
/-- from F, H to F', H': all is kept but the source of draws; what is frozen anew is new -/
structure Ext (bo : Option Addr) (F H F' H' : Hp) : Prop where
  sf : Same F F'
  sub : Same F' H'
  keep : ∀ a o, some a ≠ bo → H a = some o → H' a = some o
  new : ∀ a o, F a = none → F' a = some o → H a = none
def BoxRep (bo : Option Addr) (F H : Hp) (b : Bx) : Prop := ∀ β, bo = some β → F β = none ∧ H β = some (.lst [.int b.1, .int b.2.1, .int b.2.2])
theorem Ext.refl {bo : Option Addr} {F H : Hp} (s : Same F H) : Ext bo F H F H := ⟨Same.refl _, s, fun _ _ _ h => h, fun _ _ h h' => by rw [h] at h'; cases h'⟩
theorem Ext.trans {bo : Option Addr} {F H F1 H1 F2 H2 : Hp} {b : Bx} (x : Ext bo F H F1 H1) (y : Ext bo F1 H1 F2 H2) (q : BoxRep bo F2 H2 b) : Ext bo F H F2 H2 := by
  refine ⟨x.sf.trans y.sf, y.sub, fun a o n h => y.keep a o n (x.keep a o n h), fun a o h h' => ?_⟩
  by_cases e : some a = bo
  · rw [(q a e.symm).1] at h'
    cases h'
  · cases h1 : F1 a with
    | none =>
      have n1 := y.new a o h1 h'
      cases h2 : H a with
      | none => rfl
      | some u =>
        rw [x.keep a u e h2] at n1
        cases n1
    | some u => exact x.new a u h h1
theorem Ext.of_none {bo : Option Addr} {F H F' H' : Hp} (x : Ext none F H F' H') : Ext bo F H F' H' := ⟨x.sf, x.sub, fun a o _ h => x.keep a o (fun z => nomatch z) h, x.new⟩
theorem Ext.box {bo : Option Addr} {F H F' H' : Hp} {b : Bx} (x : Ext none F H F' H') (q : BoxRep bo F H b) : BoxRep bo F' H' b := fun β e => by
  obtain ⟨q1, q2⟩ := q β e
  refine ⟨?_, x.keep _ _ (fun z => nomatch z) q2⟩
  cases h : F' β with
  | none => rfl
  | some u =>
    have := x.new _ _ q1 h
    rw [q2] at this
    cases this
/-- a cell that stands unfrozen stays unfrozen -/
theorem Ext.un {bo : Option Addr} {F H F' H' : Hp} (x : Ext bo F H F' H') {a : Addr} {o : HO} (h : F a = none) (h' : H a = some o) : F' a = none := by
  cases e : F' a with
  | none => rfl
  | some u =>
    have := x.new _ _ h e
    rw [h'] at this
    cases this

/-! ### what an operand, a new value may be -/
inductive Mo where
  | n
  | r
/-- an operand: frozen data, or a list that may be read -/
def RpR (bo : Option Addr) (F H : Hp) (v : V) (d : P) : Prop :=
  match d with
  | .list ds => ∃ a vs, v = .ref a ∧ some a ≠ bo ∧ H a = some (.lst vs) ∧ RpA F vs ds
  | .dict ds => ∃ a o, v = .ref a ∧ some a ≠ bo ∧ H a = some o ∧ DcO F o ds
  | d => Rp F v d
def RpM (bo : Option Addr) (F H : Hp) (m : Mo) (v : V) (d : P) : Prop :=
  match m with
  | .n => Rp F v d
  | .r => RpR bo F H v d
theorem Rp.r {bo : Option Addr} {F H : Hp} {b : Bx} (s : Same F H) (q : BoxRep bo F H b) {v : V} {d : P} (r : Rp F v d) : RpR bo F H v d := by
  cases r with
  | lst e r =>
    refine ⟨_, _, rfl, fun z => ?_, s _ _ e, r⟩
    have := (q _ z.symm).1
    rw [e] at this
    cases this
  | non => exact .non
  | bl b => exact .bl b
  | int i => exact .int i
  | str x => exact .str x
  | tup e r => exact .tup e r
  | dct e r =>
    refine ⟨_, _, rfl, fun z => ?_, s _ _ e, r⟩
    have := (q _ z.symm).1
    rw [e] at this
    cases this
theorem RpR.mono {bo : Option Addr} {F H F' H' : Hp} (x : Ext bo F H F' H') {v : V} {d : P} (r : RpR bo F H v d) : RpR bo F' H' v d := by
  cases d with
  | list ds =>
    obtain ⟨a, vs, e, n, h, r⟩ := r
    exact ⟨a, vs, e, n, x.keep _ _ n h, r.mono x.sf⟩
  | none => exact Rp.mono x.sf r
  | bool b => exact Rp.mono x.sf r
  | int i => exact Rp.mono x.sf r
  | str z => exact Rp.mono x.sf r
  | tuple ds => exact Rp.mono x.sf r
  | dict ds =>
    obtain ⟨a, vs, e, n, h, r⟩ := r
    exact ⟨a, vs, e, n, x.keep _ _ n h, r.mono x.sf⟩
theorem RpM.mono {bo : Option Addr} {F H F' H' : Hp} (x : Ext bo F H F' H') {m : Mo} {v : V} {d : P} (r : RpM bo F H m v d) : RpM bo F' H' m v d := by
  cases m with
  | n => exact Rp.mono x.sf r
  | r => exact RpR.mono x r
theorem RpM.r {bo : Option Addr} {F H : Hp} {b : Bx} (s : Same F H) (q : BoxRep bo F H b) {m : Mo} {v : V} {d : P} (r : RpM bo F H m v d) : RpR bo F H v d := by
  cases m with
  | n => exact Rp.r s q r
  | r => exact r
/-- an operand as the layer's data -/
theorem RpR.dp {bo : Option Addr} {K : PySem.W.Frag} {F H : Hp} (s : Same F H) {v : V} {d : P} (r : RpR bo F H v d) (nd : noD d = true) : Dp K H v d := by
  cases d with
  | list ds =>
    obtain ⟨a, vs, rfl, n, h, r⟩ := r
    exact .lst (SqL.of h) (r.dp s nd)
  | none => exact Rp.dp s r nd
  | bool b => exact Rp.dp s r nd
  | int i => exact Rp.dp s r nd
  | str z => exact Rp.dp s r nd
  | tuple ds => exact Rp.dp s r nd
  | dict ds => cases nd
/-- a value whose list, if it is one, is new since B and not frozen -/
def FrR (bo : Option Addr) (B F H : Hp) (v : V) (d : P) : Prop :=
  match d with
  | .list ds => ∃ a vs, v = .ref a ∧ some a ≠ bo ∧ B a = none ∧ F a = none ∧ H a = some (.lst vs) ∧ RpA F vs ds
  | .dict ds => ∃ a o, v = .ref a ∧ some a ≠ bo ∧ B a = none ∧ F a = none ∧ H a = some o ∧ DcO F o ds
  | d => Rp F v d
theorem FrR.mono {bo : Option Addr} {B F H F' H' : Hp} (x : Ext bo F H F' H') {v : V} {d : P} (r : FrR bo B F H v d) : FrR bo B F' H' v d := by
  cases d with
  | list ds =>
    obtain ⟨a, vs, e, n, b, f, h, r⟩ := r
    exact ⟨a, vs, e, n, b, x.un f h, x.keep _ _ n h, r.mono x.sf⟩
  | none => exact Rp.mono x.sf r
  | bool b => exact Rp.mono x.sf r
  | int i => exact Rp.mono x.sf r
  | str z => exact Rp.mono x.sf r
  | tuple ds => exact Rp.mono x.sf r
  | dict ds =>
    obtain ⟨a, vs, e, n, b, f, h, r⟩ := r
    exact ⟨a, vs, e, n, b, x.un f h, x.keep _ _ n h, r.mono x.sf⟩
/-- it may be frozen -/
theorem FrR.fz {bo : Option Addr} {B F H F' H' : Hp} {b : Bx} (x : Ext bo F H F' H') (q : BoxRep bo F' H' b) (hB : ∀ a, B a = none → H a = none) {v : V} {d : P} (r : FrR bo B F' H' v d) :
    ∃ F'', Ext bo F H F'' H' ∧ BoxRep bo F'' H' b ∧ Same F' F'' ∧ Rp F'' v d := by
  cases d with
  | list ds =>
    obtain ⟨a, vs, e, n, hb, f, h, r⟩ := r
    have s : Same F' (upd F' a (.lst vs)) := fun c o hc => by
      rw [upd_ne (ne_of_none hc f)]
      exact hc
    refine ⟨upd F' a (.lst vs), ⟨x.sf.trans s, fun c o hc => ?_, x.keep, fun c o h1 h2 => ?_⟩, fun β e => ?_, s, ?_⟩
    · by_cases z : c = a
      · subst z
        rw [upd_same] at hc
        cases hc
        exact h
      · rw [upd_ne z] at hc
        exact x.sub _ _ hc
    · by_cases z : c = a
      · subst z
        exact hB _ hb
      · rw [upd_ne z] at h2
        exact x.new _ _ h1 h2
    · have z : β ≠ a := fun z => n (by rw [← z]; exact e.symm)
      rw [upd_ne z]
      exact q β e
    · rw [e]
      exact .lst upd_same (r.mono s)
  | dict ds =>
    obtain ⟨a, vs, e, n, hb, f, h, r⟩ := r
    have s : Same F' (upd F' a vs) := fun c o hc => by
      rw [upd_ne (ne_of_none hc f)]
      exact hc
    refine ⟨upd F' a vs, ⟨x.sf.trans s, fun c o hc => ?_, x.keep, fun c o h1 h2 => ?_⟩, fun β e => ?_, s, ?_⟩
    · by_cases z : c = a
      · subst z
        rw [upd_same] at hc
        cases hc
        exact h
      · rw [upd_ne z] at hc
        exact x.sub _ _ hc
    · by_cases z : c = a
      · subst z
        exact hB _ hb
      · rw [upd_ne z] at h2
        exact x.new _ _ h1 h2
    · have z : β ≠ a := fun z => n (by rw [← z]; exact e.symm)
      rw [upd_ne z]
      exact q β e
    · rw [e]
      exact .dct upd_same (r.mono s)
  | none => exact ⟨F', x, q, Same.refl _, r⟩
  | bool b => exact ⟨F', x, q, Same.refl _, r⟩
  | int i => exact ⟨F', x, q, Same.refl _, r⟩
  | str z => exact ⟨F', x, q, Same.refl _, r⟩
  | tuple ds => exact ⟨F', x, q, Same.refl _, r⟩

/-! ### environments -/
/-- the def's own list at a -/
def Ow (bo : Option Addr) (H0 F H : Hp) (a : Addr) (d : P) : Prop :=
  match d with
  | .list ds => some a ≠ bo ∧ H0 a = none ∧ F a = none ∧ ∃ vs, H a = some (.lst vs) ∧ RpA F vs ds
  | .dict ds => some a ≠ bo ∧ H0 a = none ∧ F a = none ∧ ∃ o, H a = some o ∧ DcO F o ds
  | _ => False
def SlRep (bo : Option Addr) (H0 F H : Hp) (x : Option V) (s : Sl) : Prop :=
  match s with
  | .no => True
  | .v d => ∃ v, x = some v ∧ Rp F v d
  | .o d => ∃ a, x = some (.ref a) ∧ Ow bo H0 F H a d
structure EnvRep (bo : Option Addr) (H0 F H : Hp) (σ : L2.St) (e : Env) : Prop where
  len : e.length = σ.length
  sl : ∀ (i : Nat) (s : Sl), e[i]? = some s → SlRep bo H0 F H (σ[i]?.getD none) s
  ap : ∀ (i j : Nat) (a : Addr) (di dj : P), i ≠ j → e[i]? = some (.o di) → e[j]? = some (.o dj) → σ[i]? = some (some (.ref a)) → σ[j]? ≠ some (some (.ref a))
theorem Ow.mono {bo : Option Addr} {H0 F H F' H' : Hp} (x : Ext bo F H F' H') {a : Addr} {d : P} (r : Ow bo H0 F H a d) : Ow bo H0 F' H' a d := by
  cases d with
  | list ds =>
    obtain ⟨n, h0, f, vs, h, r⟩ := r
    exact ⟨n, h0, x.un f h, vs, x.keep _ _ n h, r.mono x.sf⟩
  | dict ds =>
    obtain ⟨n, h0, f, vs, h, r⟩ := r
    exact ⟨n, h0, x.un f h, vs, x.keep _ _ n h, r.mono x.sf⟩
  | _ => exact r.elim
theorem SlRep.mono {bo : Option Addr} {H0 F H F' H' : Hp} (x : Ext bo F H F' H') {v : Option V} {s : Sl} (r : SlRep bo H0 F H v s) : SlRep bo H0 F' H' v s := by
  cases s with
  | no => trivial
  | v d =>
    obtain ⟨u, e, r⟩ := r
    exact ⟨u, e, r.mono x.sf⟩
  | o d =>
    obtain ⟨u, e, r⟩ := r
    exact ⟨u, e, r.mono x⟩
theorem EnvRep.mono {bo : Option Addr} {H0 F H F' H' : Hp} (x : Ext bo F H F' H') {σ : L2.St} {e : Env} (r : EnvRep bo H0 F H σ e) : EnvRep bo H0 F' H' σ e :=
  ⟨r.len, fun i s h => (r.sl i s h).mono x, r.ap⟩
structure Pre (bo : Option Addr) (H0 : Hp) (σ : L2.St) (H : Hp) (e : Env) (b : Bx) (F : Hp) : Prop where
  sub : Same F H
  env : EnvRep bo H0 F H σ e
  box : BoxRep bo F H b
  bs : ∀ β, bo = some β → σ[0]? = some (some (.ref β))
  al : ∀ a, H0 a ≠ none → H a ≠ none
theorem Pre.step {bo : Option Addr} {H0 : Hp} {σ : L2.St} {H H' : Hp} {e : Env} {b b' : Bx} {F F' : Hp} (p : Pre bo H0 σ H e b F) (x : Ext bo F H F' H') (q : BoxRep bo F' H' b') : Pre bo H0 σ H' e b' F' := by
  refine ⟨x.sub, p.env.mono x, q, p.bs, fun a h h' => ?_⟩
  cases e : H a with
  | none => exact p.al a h e
  | some o =>
    by_cases z : some a = bo
    · rw [(q a z.symm).2] at h'
      cases h'
    · rw [x.keep a o z e] at h'
      cases h'

/-! ### results, lifted -/
/-- the classes of errors: their addresses and fields -/
structure Cls' where
  ad : Nat → Addr
  fld : Nat → Str
def ExcRep (cs : Cls') (F H : Hp) (dd : Option Addr) (c : Nat) (d : Option P) : Prop :=
  match d with
  | none => dd = none
  | some x => ∃ a v, dd = some a ∧ H a = some (.xd [(cs.fld c, v)]) ∧ Rp F v x
section
variable (bo : Option Addr) (H0 : Hp) (cs : Cls') (W : WX)
def fin (Rl : Hp → Hp → Hp → V → P → Prop) (σ : L2.St) (F H : Hp) (r : R P) (Q : VK) : Prop :=
  match r with
  | .ok d b => ∀ v F' H', Ext bo F H F' H' → BoxRep bo F' H' b → Rl H F' H' v d → Q v H'
  | .ex c d b => ∀ dd F' H', Ext bo F H F' H' → BoxRep bo F' H' b → ExcRep cs F' H' dd c d → W (.ref (cs.ad c)) dd σ H'
  | .no => False
abbrev lM (m : Mo) : Hp → Hp → Hp → V → P → Prop := fun _ F' H' v d => RpM bo F' H' m v d
abbrev lF : Hp → Hp → Hp → V → P → Prop := fun H F' H' v d => FrR bo H F' H' v d
def lift (Rl : Hp → Hp → Hp → V → P → Prop) (g : Env → Bx → R P) : TE := fun σ H Q => ∃ e b F, Pre bo H0 σ H e b F ∧ fin bo cs W Rl σ F H (g e b) Q
def finA (m : Mo) (σ : L2.St) (F H : Hp) (r : R P) (Q : List V → Hp → Prop) : Prop :=
  match r with
  | .ok d b => ∀ vs F' H', Ext bo F H F' H' → BoxRep bo F' H' b → Paired (RpM bo F' H' m) vs (argsOf d) → Q vs H'
  | .ex c d b => ∀ dd F' H', Ext bo F H F' H' → BoxRep bo F' H' b → ExcRep cs F' H' dd c d → W (.ref (cs.ad c)) dd σ H'
  | .no => False
def liftA (m : Mo) (g : Env → Bx → R P) : TA := fun σ H Q => ∃ e b F, Pre bo H0 σ H e b F ∧ finA bo cs W m σ F H (g e b) Q
def finT (σ : L2.St) (F H : Hp) (r : R Bool) (Q : Bool → Hp → Prop) : Prop :=
  match r with
  | .ok t b => ∀ F' H', Ext bo F H F' H' → BoxRep bo F' H' b → Q t H'
  | .ex c d b => ∀ dd F' H', Ext bo F H F' H' → BoxRep bo F' H' b → ExcRep cs F' H' dd c d → W (.ref (cs.ad c)) dd σ H'
  | .no => False
def liftT (g : Env → Bx → R Bool) : TT := fun σ H Q => ∃ e b F, Pre bo H0 σ H e b F ∧ finT bo cs W σ F H (g e b) Q
end
theorem bindR_ok {α β : Type} {a : α} {b : Bx} {f : α → Bx → R β} : (R.ok a b).bind f = f a b := rfl
section
variable {bo : Option Addr} {H0 : Hp} {cs : Cls'} {W : WX} {σ : L2.St} {F H F1 H1 : Hp} {b b1 : Bx} {e : Env}
/-- the same from a later state -/
theorem fin_step {Rl : Hp → Hp → Hp → V → P → Prop} {r : R P} {Q : VK} (hR : ∀ F' H' v d, Rl H1 F' H' v d → (∀ a, H1 a = none → H a = none) → Rl H F' H' v d) (q1 : BoxRep bo F1 H1 b1) (x : Ext bo F H F1 H1) (h : fin bo cs W Rl σ F H r Q) : fin bo cs W Rl σ F1 H1 r Q := by
  have hn : ∀ a, H1 a = none → H a = none := fun a n => by
    cases e : H a with
    | none => rfl
    | some o =>
      by_cases z : some a = bo
      · rw [(q1 a z.symm).2] at n
        cases n
      · rw [x.keep a o z e] at n
        cases n
  cases r with
  | ok d b2 => exact fun v F' H' y q r => h v F' H' (x.trans y q) q (hR _ _ _ _ r hn)
  | ex c d b2 => exact fun dd F' H' y q r => h dd F' H' (x.trans y q) q r
  | no => exact h.elim
theorem finA_step {m : Mo} {r : R P} {Q : List V → Hp → Prop} (x : Ext bo F H F1 H1) (h : finA bo cs W m σ F H r Q) : finA bo cs W m σ F1 H1 r Q := by
  cases r with
  | ok d b2 => exact fun v F' H' y q r => h v F' H' (x.trans y q) q r
  | ex c d b2 => exact fun dd F' H' y q r => h dd F' H' (x.trans y q) q r
  | no => exact h.elim
theorem finT_step {r : R Bool} {Q : Bool → Hp → Prop} (x : Ext bo F H F1 H1) (h : finT bo cs W σ F H r Q) : finT bo cs W σ F1 H1 r Q := by
  cases r with
  | ok d b2 => exact fun F' H' y q => h F' H' (x.trans y q) q
  | ex c d b2 => exact fun dd F' H' y q r => h dd F' H' (x.trans y q) q r
  | no => exact h.elim
theorem hRM {m : Mo} : ∀ F' H' v d, lM bo m H1 F' H' v d → (∀ a, H1 a = none → H a = none) → lM bo m H F' H' v d := fun _ _ _ _ h _ => h
theorem hRF : ∀ F' H' v d, lF bo H1 F' H' v d → (∀ a, H1 a = none → H a = none) → lF bo H F' H' v d := fun F' H' v d h hn => by
  cases d with
  | list ds =>
    obtain ⟨a, vs, e, n, b, r⟩ := h
    exact ⟨a, vs, e, n, hn _ b, r⟩
  | none => exact h
  | bool b => exact h
  | int i => exact h
  | str z => exact h
  | tuple ds => exact h
  | dict ds =>
    obtain ⟨a, vs, e, n, b, r⟩ := h
    exact ⟨a, vs, e, n, hn _ b, r⟩
/-- first r, then k -/
theorem fin_bind {Rl Rl1 : Hp → Hp → Hp → V → P → Prop} {r : R P} {k : P → Bx → R P} {Q Q1 : VK} (hR : ∀ H H1 F' H' v d, Rl H1 F' H' v d → (∀ a, H1 a = none → H a = none) → Rl H F' H' v d) (p : Pre bo H0 σ H e b F) (h : fin bo cs W Rl σ F H (r.bind k) Q)
    (hk : ∀ d b1 v F1 H1, Pre bo H0 σ H1 e b1 F1 → Ext bo F H F1 H1 → Rl1 H F1 H1 v d → fin bo cs W Rl σ F1 H1 (k d b1) Q → Q1 v H1) : fin bo cs W Rl1 σ F H r Q1 := by
  cases r with
  | ok d b1 => exact fun v F1 H1 x q r => hk d b1 v F1 H1 (p.step x q) x r (fin_step (fun F' H' v d => hR H H1 F' H' v d) q x h)
  | ex c d b1 => exact h
  | no => exact h.elim
theorem fin_bindA {Rl : Hp → Hp → Hp → V → P → Prop} {m : Mo} {r : R P} {k : P → Bx → R P} {Q : VK} {Q1 : List V → Hp → Prop} (hR : ∀ H H1 F' H' v d, Rl H1 F' H' v d → (∀ a, H1 a = none → H a = none) → Rl H F' H' v d) (p : Pre bo H0 σ H e b F) (h : fin bo cs W Rl σ F H (r.bind k) Q)
    (hk : ∀ d b1 vs F1 H1, Pre bo H0 σ H1 e b1 F1 → Ext bo F H F1 H1 → Paired (RpM bo F1 H1 m) vs (argsOf d) → fin bo cs W Rl σ F1 H1 (k d b1) Q → Q1 vs H1) : finA bo cs W m σ F H r Q1 := by
  cases r with
  | ok d b1 => exact fun v F1 H1 x q r => hk d b1 v F1 H1 (p.step x q) x r (fin_step (fun F' H' v d => hR H H1 F' H' v d) q x h)
  | ex c d b1 => exact h
  | no => exact h.elim
theorem finA_bind {Rl1 : Hp → Hp → Hp → V → P → Prop} {m : Mo} {r : R P} {k : P → Bx → R P} {Q : List V → Hp → Prop} {Q1 : VK} (p : Pre bo H0 σ H e b F) (h : finA bo cs W m σ F H (r.bind k) Q)
    (hk : ∀ d b1 v F1 H1, Pre bo H0 σ H1 e b1 F1 → Ext bo F H F1 H1 → Rl1 H F1 H1 v d → finA bo cs W m σ F1 H1 (k d b1) Q → Q1 v H1) : fin bo cs W Rl1 σ F H r Q1 := by
  cases r with
  | ok d b1 => exact fun v F1 H1 x q r => hk d b1 v F1 H1 (p.step x q) x r (finA_step x h)
  | ex c d b1 => exact h
  | no => exact h.elim
theorem finA_bindA {m m1 : Mo} {r : R P} {k : P → Bx → R P} {Q Q1 : List V → Hp → Prop} (p : Pre bo H0 σ H e b F) (h : finA bo cs W m σ F H (r.bind k) Q)
    (hk : ∀ d b1 vs F1 H1, Pre bo H0 σ H1 e b1 F1 → Ext bo F H F1 H1 → Paired (RpM bo F1 H1 m1) vs (argsOf d) → finA bo cs W m σ F1 H1 (k d b1) Q → Q1 vs H1) : finA bo cs W m1 σ F H r Q1 := by
  cases r with
  | ok d b1 => exact fun v F1 H1 x q r => hk d b1 v F1 H1 (p.step x q) x r (finA_step x h)
  | ex c d b1 => exact h
  | no => exact h.elim
theorem finT_bind {Rl1 : Hp → Hp → Hp → V → P → Prop} {r : R P} {k : P → Bx → R Bool} {Q : Bool → Hp → Prop} {Q1 : VK} (p : Pre bo H0 σ H e b F) (h : finT bo cs W σ F H (r.bind k) Q)
    (hk : ∀ d b1 v F1 H1, Pre bo H0 σ H1 e b1 F1 → Ext bo F H F1 H1 → Rl1 H F1 H1 v d → finT bo cs W σ F1 H1 (k d b1) Q → Q1 v H1) : fin bo cs W Rl1 σ F H r Q1 := by
  cases r with
  | ok d b1 => exact fun v F1 H1 x q r => hk d b1 v F1 H1 (p.step x q) x r (finT_step x h)
  | ex c d b1 => exact h
  | no => exact h.elim
theorem Paired.monoM {m : Mo} (x : Ext bo F H F1 H1) : ∀ {vs : List V} {ds : List P}, Paired (RpM bo F H m) vs ds → Paired (RpM bo F1 H1 m) vs ds
  | _, _, .nil => .nil
  | _, _, .cons r t => .cons (RpM.mono x r) (Paired.monoM x t)
theorem Paired.rpA : ∀ {vs : List V} {ds : List P}, Paired (RpM bo F H .n) vs ds → RpA F vs ds
  | _, _, .nil => .nil
  | _, _, .cons r t => .cons r (Paired.rpA t)
theorem RpA.paired : ∀ {vs : List V} {ds : List P}, RpA F vs ds → Paired (RpM bo F H .n) vs ds
  | _, _, .nil => .nil
  | _, _, .cons r t => .cons r (RpA.paired t)
end

/-! ### rules up to a weaker reading -/
theorem PE.imp {X : Cx} {e : Expr} {t u : TE} (h : PE X e t) (i : ∀ σ H Q, u σ H Q → t σ H Q) : PE X e u := ⟨fun pins s σ H Q I q => h.run pins s σ H Q I (i σ H Q q)⟩
theorem PT.imp {X : Cx} {e : Expr} {t u : TT} (h : PT X e t) (i : ∀ σ H Q, u σ H Q → t σ H Q) : PT X e u := ⟨fun pins s σ H Q I q => h.run pins s σ H Q I (i σ H Q q)⟩
theorem PW.imp {X : Cx} {e : Expr} {t u : TT} (h : PW X e t) (i : ∀ σ H Q, u σ H Q → t σ H Q) : PW X e u := ⟨fun wh pins s σ H Q I q => h.run wh pins s σ H Q I (i σ H Q q)⟩
theorem PA.imp {X : Cx} {es : List Expr} {t u : TA} (h : PA X es t) (i : ∀ σ H Q, u σ H Q → t σ H Q) : PA X es u := ⟨fun pos pins s σ H Q I q => h.run pos pins s σ H Q I (i σ H Q q)⟩
theorem PS.imp {X : Cx} {st : Stmt} {t u : TS} (h : PS X st t) (i : ∀ D σ H, u D σ H → t D σ H) : PS X st u := ⟨fun pins s σ H D I q => h.run pins s σ H D I (i D σ H q)⟩
theorem PSs.imp {X : Cx} {st : List Stmt} {t u : TS} (h : PSs X st t) (i : ∀ D σ H, u D σ H → t D σ H) : PSs X st u := ⟨fun pins s σ H D I q => h.run pins s σ H D I (i D σ H q)⟩
end Dv
/-! text EX1 -/
set_option Elab.async false
set_option linter.all false
set_option maxRecDepth 100000
set_option maxHeartbeats 4000000
namespace Dv
open PySem PySem.W PySem.Calls PyProof.Rows PySem.HandSPX Builtin Builtin.ObjectAttr

/-! ### an own error, a child of LookupError or ValueError, whose __init__ says super().__init__(f); self.f = f -/
def eA (f : Str) (p1 p2 : Pos) : Arguments := { posonlyargs := [], args := [{ arg := "self", annotation := none, pos := p1 }, { arg := f, annotation := none, pos := p2 }], vararg := none, kwonlyargs := [], kw_defaults := [], kwarg := none, defaults := [] }
def eB (f : Str) (q1 q2 q3 q4 q5 q6 q7 q8 q9 q10 : Pos) : List Stmt := [.Expr (.Call (.Attribute (.Call (.Name "super" q1) [] [] q2) "__init__" q3) [.Name f q4] [] q5) q6, .Assign [.Attribute (.Name "self" q7) f q8] (.Name f q9) q10]
def eS (f : Str) : Scope := { kind := .function, names := [(PySem.Str.ofString "self", .local), (f, .local), (PySem.Str.ofString "__class__", .free), (PySem.Str.ofString "super", .globalImplicit)], isGenerator := false, isCoroutine := false, more := [] }
/-- of a built-in error class -/
structure BaseF (B newId initId : String) (bm : List Value) : Prop where
  F : ExcBaseFacts B newId initId bm
  S : StoreFacts B bm "object.__setattr__" "object"
  KF : KxsFacts B initId
theorem base_LookupError : BaseF "LookupError" "LookupError.__new__" "LookupError.__init__" [.type "LookupError", .type "Exception", .type "BaseException", .type "object"] := ⟨F.excBase_LookupError, F.store_LookupError, kxs_LookupError⟩
theorem base_ValueError : BaseF "ValueError" "ValueError.__new__" "ValueError.__init__" [.type "ValueError", .type "Exception", .type "BaseException", .type "object"] := ⟨F.excBase_ValueError, F.store_ValueError, kxs_ValueError⟩
/-- what the written part says of such a class, at C; its __init__ at fI, the cell of __class__ at cc, the code at ca -/
structure ErrT (P : Program) (K : Frag) (mg : Str → Option Value) (x f : Str) (B newId initId : String) (bm : List Value) (C fI cc ca : Addr) : Prop where
  fact : BaseF B newId initId bm
  gC : mg x = some (.ref C)
  cls : ∃ nm q N bs sn sub ab col dd k0 k1 k2 k3 k5, K.lookup C = some (excClassObj nm q C N bs bm true sn sub ab col dd k0 k1 k2 k3 k5 newId)
  sa : findIn K (.ref C) "__setattr__" = some (some (.builtin "object.__setattr__"))
  noF : findIn K (.ref C) f = some none
  iC : findIn K (.ref C) "__init__" = some (some (.ref fI))
  tC : typeIn K (.ref fI) = some (.type "function")
  kC : keepIn K (.ref C) = true
  exC : subIn K (.ref C) (.type "BaseException") = some true
  tyC : typeIn K (.ref C) = some (.type "type")
  subB : subIn K (.ref C) (.type B) = some true
  mroC : mroIn K C (.ref C) = some true
  sup : ks_superIn K C C "__init__" = some (some (.builtin initId))
  cell : ∃ cl cld csl, K.lookup cc = some ⟨cl, cld, .cell (some (.ref C)), csl⟩
  code : ∃ ccl cdd vs ccs file tf, K.lookup ca = some ⟨ccl, cdd, .fields vs, ccs⟩ ∧ vs[2]? = some (.str file tf) ∧ ((P.main.file : Str) == file) = true
  noS : mg "super" = none
  noTop : (P.main.scope.names.lookup ("super" : Str)).isSome = false
  opq : nsIn K cStatics "thirdparty.any" = some none
  fn : ∃ (oc : Value) (od : Option Addr) (qual : Str) (doc pm : Value) (an : Option Addr) (ct : Value) (osl : Array (Option Value)) (p1 p2 q1 q2 q3 q4 q5 q6 q7 q8 q9 q10 : Pos),
    K.lookup fI = some ⟨oc, od, .func (ksFn "__init__" qual (eA f p1 p2) (eB f q1 q2 q3 q4 q5 q6 q7 q8 q9 q10) (eS f) .none .none doc pm an (.ref ca) ct cc), osl⟩ ∧ codeIn K (.ref ca) qual = true ∧ (q3.endLine == q5.line) = true
  fS : (f == ("self" : Str)) = false
  kF : (eS f).names.lookup f = some .local
  kS : (eS f).names.lookup ("self" : Str) = some .local
  kK : (eS f).names.lookup ("__class__" : Str) = some .free
  kU : (eS f).names.lookup ("super" : Str) = some .globalImplicit
  fD : (f == ("__debug__" : Str)) = false
theorem one_size (v : Value) : [v].length ≤ sizeLine := by
  rw [sizeLine_eq]
  exact (by decide : 1 ≤ 16777216)
theorem kept_but {K : Frag} {h h' : Heap} {x : Addr} (X : K.In h) (hx : K.lookup x = none) (k : ∀ b o, b ≠ x → h.get? b = some o → h'.get? b = some o) : K.In h' := fun a o e =>
  k a o (fun z => by rw [z, hx] at e; cases e) (X a o e)
section
variable {prog : Program} {w : World} {A : Around} {E : Value → Shared → Prop} {R : Result → Shared → Prop}
/-- self.f = v on an exception that has no dict yet; its class a child of B -/
theorem osa_err {B newId initId : String} {bm : List Value} {hp : Heap} {g : Array GenState} {d : Drawn} {t : Nat} {os : OsState} {K : Frag} {name : Str} {tk : Tok} {v : Value} {x C : Addr} {fv : Array Value} {cd : ClassData} (BF : BaseF B newId initId bm)
    (X : K.In hp) (hx : hp.get? x = some { cls := .ref C, data := .fields fv }) (hcd : clsIn K C = some cd) (hm : cd.mro = .ref C :: bm) (hh : cd.hasDict = true) (ha : findIn K (.ref C) name = some none)
    (hq : ∀ h' tk' dx, (∀ b o, b ≠ x → hp.get? b = some o → h'.get? b = some o) → hp.objs.size ≤ dx → dx ≠ x → h'.get? x = some { cls := .ref C, dict := some dx, data := .fields fv } →
      h'.Ns1 dx (fun y => if y = name then some v else none) → R (.ok (.ret .none)) ⟨h', g, d, tk', os⟩) :
    codeAny (model prog w) A (.call (.builtin "object.__setattr__") ⟨[.ref x, .str name tk, v], []⟩) R ⟨hp, g, d, t, os⟩ := by
  have I : InstAt hp x { cls := .ref C, data := .fields fv } C none := ⟨hx, rfl, rfl, trivial⟩
  have SF := F.store_object
  have hob : (Value.ref C :: bm).contains (.type "object") = true := by
    rw [List.contains_cons, BF.S.hasOwner, Bool.or_true]
  have hxs : x ≠ hp.objs.size := Nat.ne_of_lt (Heap.lt_size hx)
  have sub : Looks (model prog w) hp (isInstance (.ref x) (.type "object")) true := I.type.andThen (looks_mroIn X (by
    unfold mroIn
    rw [hcd, Option.bind_some, hm, if_neg (show ¬ (List.isEmpty (Value.ref C :: bm) = true) from Bool.false_ne_true), hob]))
  refine codeAny_call_builtin SF.slot.plain SF.entry (@check_slot (model prog w) _ _ ⟨hp, g, d, t, os⟩ "object.__setattr__" "object" "__setattr__" (.ref x) [.str name tk, v] [] _ SF.kind SF.split sub (SF.args (.ref x) (.str name tk) v) ?_)
  have hmr : Looks (model prog w) hp (mroOf (.ref C)) cd.mro := (looks_clsIn X hcd).andThen .now
  have L3 : Looks (model prog w) hp (storeTaker? none) none := .now
  have hcls : Looks (model prog w) hp (classData C) cd := looks_clsIn X hcd
  have pass : refuseLoop (.ref x) "__setattr__" cd.mro = pure () := by
    rw [hm, refuseLoop_ref]
    exact BF.S.passes _
  rw [osa_eq, refuse_eq]
  refine wpAny_bind (wpAny_bind (I.type.at (wpAny_bind (hmr.at ?_))))
  rw [pass]
  refine wpAny_pure (wpAny_bind (I.type.at (wpAny_bind ((looks_findIn X ha).at (wpAny_bind (L3.at ?_))))))
  show wpAny _ _ (storeInOwnDict (.ref x) (.ref C) (.str name tk) name v false) _ _ _
  obtain ⟨nm, bs, mro, ns, qn, hd, sn, sb, ab, col, del⟩ := cd
  dsimp only at hh
  subst hh
  unfold storeInOwnDict ownDictForStores
  repeat (first | with_reducible refine store_in_new ?_ ?_ | with_reducible refine wpAny_loadPart_at hx ?_ | with_reducible refine hcls.at ?_ | wp_step)
  · exact ⟨_, #[], _, (Heap.get?_update_ne _ _ _ _ hxs.symm).trans (Heap.get?_push_at rfl rfl), rfl, fun e he => absurd he (by simp), fun _ => rfl⟩
  · intro h' tk' hn' hs
    have hx1 : (hp.push { cls := .type "dict", data := .dict #[] }).get? x = some { cls := .ref C, data := .fields fv } := Heap.get?_push_of_some _ hx
    refine hq h' tk' hp.objs.size (fun b o hb ho => ?_) (Nat.le_refl _) hxs.symm ?_ hn'
    · exact (hs.2 b (Nat.ne_of_lt (Heap.lt_size ho))).trans ((Heap.get?_update_ne _ _ _ _ hb).trans (Heap.get?_push_of_some _ ho))
    · exact (hs.2 x hxs).trans (Heap.get?_update_self _ hx1 rfl)
/-- the bound __init__ called -/
theorem call_mw {B newId initId : String} {bm : List Value} {hp : Heap} {g : Array GenState} {d : Drawn} {t : Nat} {os : OsState} {nm q : Str} {C N : Addr} {bs : List Value} {hdct : Bool} {sn : List Str} {sub : List Value} {ab : Bool} {col : Option Bool} {dd : Option Addr} {k0 k1 k2 k3 k5 : Option Value}
    (BF : BaseF B newId initId bm) {u e t0 : Addr} {rest : List Value} {Q : Value → Shared → Prop}
    (hC : hp.get? C = some (excClassObj nm q C N bs bm hdct sn sub ab col dd k0 k1 k2 k3 k5 newId)) (he : hp.get? e = some (excO C t0)) (hu : hp.get? u = some (kxs_mw initId e)) (hrest : rest.length ≤ sizeLine)
    (hq : ∀ h' t1, (∀ b o, b ≠ e → hp.get? b = some o → h'.get? b = some o) → h'.get? e = some (excO C t1) → Q .none ⟨h', g, d, t, os⟩) :
    wpAny (model prog w) A (call (.ref u) rest) Q E ⟨hp, g, d, t, os⟩ := by
  refine wpAny_call (codeAny_of_tree ?_)
  show wpAny _ A.in1 (callAny (.ref u) ⟨rest, []⟩) _ _ _
  simp only [callAny]
  refine wpAny_bind (wpAny_load hu ?_)
  simp only [kxs_mw, show (Value.type "method-wrapper" == Value.type "method" || Value.type "method-wrapper" == Value.type "builtin_function_or_method" || Value.type "method-wrapper" == Value.type "method-wrapper") = true by decide, if_true]
  refine KFB.if_so (by decide) ?_
  refine wpAny_bind (check_bound_init BF.F.toExcCallFacts hC he rfl ?_)
  refine wpAny_bind (wpAny_pure (wpAny_pure ?_))
  refine ⟨plainId_quiet BF.F.init.plain _, codeAny_builtin BF.F.initEntry ?_⟩
  exact exc_init_tree (cls := .ref C) (t0 := t0) (dv := none) (c2 := .none) (c3 := .none) (b4 := .bool false) he hrest fun h' k e' _ => hq h' _ k e'
end
end Dv
namespace Dv
open PySem PySem.W PySem.Calls PyProof.Rows PySem.HandSPX
/-- what __init__ leaves of a fresh exception at x -/
structure InitEnd (f : Str) (h h' : Heap) (x C dx t1 : Addr) (v : Value) : Prop where
  keep : ∀ b o, b ≠ x → h.get? b = some o → h'.get? b = some o
  obj : h'.get? x = some { cls := .ref C, dict := some dx, data := .fields #[.ref t1, .none, .none, .none, .bool false, .none] }
  dbig : h.objs.size ≤ dx
  dne : dx ≠ x
  ns : h'.Ns1 dx (fun y => if y = f then some v else none)
section
variable {prog : Program} {w : World} {A : Around} {E : Value → Shared → Prop} {R : Result → Shared → Prop} {s : Shared} {K : Frag} {mg mb : Str → Option Value} {C fI cc ca : Addr} {xn f : Str} {B newId initId : String} {bm : List Value}
theorem look_f {f : Str} {x v : Value} : ([(("self" : Str), x), (f, v)].reverse).lookup f = some v := by
  show List.lookup f [(f, v), (("self" : Str), x)] = some v
  simp [List.lookup]
theorem look_s {f : Str} {x v : Value} (h : (f == ("self" : Str)) = false) : ([(("self" : Str), x), (f, v)].reverse).lookup ("self" : Str) = some x := by
  show List.lookup ("self" : Str) [(f, v), (("self" : Str), x)] = some x
  have h2 : (("self" : Str) == f) = false := by
    have : ¬ f = ("self" : Str) := by simpa using h
    simpa using fun e => this e.symm
  simp [List.lookup, h2]
theorem eval_super {f : Str} {q1 q2 q3 q4 q5 : Pos} (h : (q3.endLine == q5.line) = true) (env : PySem.Env) : eval (.Call (.Attribute (.Call (.Name "super" q1) [] [] q2) "__init__" q3) [.Name f q4] [] q5) env = (do
      let ov ← attributeBase (.Call (.Name "super" q1) [] [] q2) "__init__" env (eval (.Call (.Name "super" q1) [] [] q2) env)
      standAt q3.atName
      let (g, first) ← holding [ov] (getMethod ov "__init__" (do return (← importBound (.Call (.Name "super" q1) [] [] q2) env).getD true))
      callWith q5 g first (backTo q5 (starEach [.Name f q4] env)) []) := by
  rw [arm_eval_Call]
  unfold methodCall
  have ef : methodCallForm (List.length [Expr.Name f q4] + List.length ([] : List Keyword)) (backTo q5 (starEach [.Name f q4] env)) (backToKw q5 (keywordEach [] env)) = true := rfl
  have e : ∀ o : Expr, methodCallPos true o env q3 q5 = pure q5 := fun o => by
    unfold methodCallPos
    rw [h]
    rfl
  simp only [ef, e]
  rfl
theorem err_init (T : ErrT prog K mg xn f B newId initId bm C fI cc ca) (hb : ∀ (s : Shared) (fd : FuncData) (x v : Value) (p1 p2 : Pos), fd.params = eA f p1 p2 → fd.defaults = .none → fd.kwdefaults = .none → BindsTo s fd ⟨[x, v], []⟩ [("self", x), (f, v)])
    (hbt : ∀ x : Str, x ≠ "__name__" → mb x = bootBuiltins x) {x t0 : Addr} {v : Value} (X : K.In s.heap) (hG : s.heap.Ns mainGlobals mg) (hB : s.heap.Ns builtinsNs mb) (hlim : s.heap.NoLimit) (hx : s.heap.get? x = some (excO C t0)) (hnx : K.lookup x = none) (hroom : A.depth < recursionLimit)
    (hq : ∀ h' tk dx t1, InitEnd f s.heap h' x C dx t1 v → R (.ok (.ret .none)) { s with heap := h', toks := tk }) :
    codeAny (model prog w) A (.call (.ref fI) ⟨[.ref x, v], []⟩) R s := by
  obtain ⟨oc, od, qual, doc, pm, an, ct, osl, p1, p2, q1, q2, q3, q4, q5, q6, q7, q8, q9, q10, ho, hcd, hln⟩ := T.fn
  obtain ⟨nm, q, N, bs, sn, sub, ab, col, dd, k0, k1, k2, k3, k5, hC⟩ := T.cls
  obtain ⟨cl, cld, csl, hcell⟩ := T.cell
  obtain ⟨ccl, cdd, vs, ccs, file, tf, hca, hvs, hfile⟩ := T.code
  have hcl : clsIn K C = some { name := nm, bases := bs, mro := .ref C :: bm, ns := N, qualname := q, hasDict := true, slotNames := sn, subclasses := sub, abstract := ab, collection := col, hasDel := false } := by unfold clsIn; rw [hC] <;> rfl
  have kf := T.kF
  refine ks_codeAny_call_defAt (body := eB f q1 q2 q3 q4 q5 q6 q7 q8 q9 q10) (binds := [("self", .ref x), (f, v)]) hroom (X _ _ ho) rfl hlim (codeRec_of X hcd) rfl (hb s _ (.ref x) v p1 p2 rfl rfl rfl) ?_ ?_ (fun h1 hn k => ?_) rfl rfl rfl
  · intro y hy
    simp only [eS, List.mem_cons, List.not_mem_nil, or_false] at hy
    rcases hy with rfl | rfl | rfl | rfl <;> exact fun z => by cases z
  · intro y hy
    simp only [List.mem_cons, List.not_mem_nil, or_false] at hy
    rcases hy with rfl | rfl
    · exact T.kS
    · exact kf
  have X1 : K.In h1 := X.keeps k
  have hx1 := k _ _ hx
  have hxL : s.heap.objs.size ≠ x := Nat.ne_of_gt (Heap.lt_size hx)
  refine ks_wpAt_execs_cons (ks_wpAt_Expr_any (ks_wpAt_MethodCall ?_ (eval_super hln _)))
  have hCd : h1.get? C = some (excClassObj nm q C N bs bm true sn sub ab col dd k0 k1 k2 k3 k5 newId) := X1 _ _ hC
  refine ks_wpAt_super_base (env := callEnv _ s.heap.objs.size fI) T.kU T.kK rfl rfl (X1 _ _ ho) rfl rfl rfl (X1 _ _ hca) rfl hvs hfile T.noTop ?_
  refine ks_loadName_global rfl T.kU (loadGlobal_builtin (hG.keeps k) T.noS (hB.keeps k) ((hbt _ (by decide)).trans (show bootBuiltins "super" = some (.type "super") by decide +kernel)) ⟨rfl, ?_⟩)
  refine wpAny_loadName_free rfl T.kK (by rfl) ⟨_, X1 _ _ hcell, rfl⟩ ?_
  refine wpAny_loadName_local (v := .ref x) rfl T.kS hn (look_s T.fS) ?_
  refine ks_wpAny_isType_cls (oD := excClassObj nm q C N bs bm true sn sub ab col dd k0 k1 k2 k3 k5 newId) hCd rfl ⟨rfl, ?_⟩
  refine ks_wpAny_call_super (oD := excClassObj nm q C N bs bm true sn sub ab col dd k0 k1 k2 k3 k5 newId) hCd rfl hx1 rfl (fun c e => by cases e) (looks_mroIn X1 T.mroC) (fun h2 e2 k2 => ?_)
  have X2 : K.In h2 := X1.keeps k2
  have hx2 := k2 _ _ hx1
  have I2 : InstAt h2 x (excO C t0) C none := ⟨hx2, rfl, rfl, trivial⟩
  have hm : alongIn K "__init__" (((Value.ref C :: bm).dropWhile (· != .ref C)).drop 1) = some (some (.builtin initId)) := by
    have := T.sup
    unfold ks_superIn at this
    rw [hcl] at this
    exact this
  refine kxs_getMethod T.fact.KF e2 (looks_opaque X2 T.opq) (l₀ := .ref C :: bm) (fun A Q E s k q => wpAny_bind ((looks_clsIn X2 hcl) A _ E s k (wpAny_pure q))) rfl X2 hm (I2.type.andThen (looks_subIn X2 T.subB)) (ks_ne X2 I2 hcl) rfl ?_
  have ku : (h2.push (kxs_mw initId x)).get? h2.objs.size = some (kxs_mw initId x) := Heap.get?_push_at rfl rfl
  have k3 : ∀ b o, h2.get? b = some o → (h2.push (kxs_mw initId x)).get? b = some o := fun b o e => Heap.get?_push_of_some _ e
  refine kxs_callWith (i := initId) (x := x) rfl (evalArgs_plain ?_)
  have hn3 := (hn.keeps k2).keeps k3
  refine spliced_more (wpAny_Name ?_ T.fD) rfl
  refine wpAny_loadName_local (v := v) rfl (by exact kf) hn3 look_f ?_
  refine spliced_none ⟨ku, ?_⟩
  refine call_mw T.fact (k3 _ _ (k2 _ _ hCd)) (k3 _ _ hx2) ku (one_size v) (fun h4 t1 k4 hx4 => ?_)
  have X4 : K.In h4 := kept_but (X2.keeps k3) hnx k4
  have hn4 := hn3.at (fun o e => k4 _ o hxL e)
  refine ks_wpAt_execs_cons (ks_wpAt_Assign_Attr (wpAt_of_wpAny ?_))
  refine wpAny_Name ?_ T.fD
  refine wpAny_loadName_local (v := v) rfl (by exact kf) hn4 look_f ?_
  refine wpAny_Name ?_
  refine wpAny_loadName_local (v := .ref x) rfl (by exact T.kS) hn4 (look_s T.fS) ?_
  refine set_plain X4 (ox := excO C t1) (od := none) ⟨hx4, rfl, rfl, trivial⟩ T.sa ?_
  refine osa_err T.fact X4 hx4 hcl rfl rfl T.noF (fun h5 tk5 dx k5 dn dne hx5 hn5 => ?_)
  have kk : ∀ b o, b ≠ x → s.heap.get? b = some o → h4.get? b = some o := fun b o hb e => k4 b o hb (k3 b o (k2 b o (k b o e)))
  have z : s.heap.objs.size ≤ h4.objs.size := by
    have := hn4.lt
    exact Nat.le_of_lt this
  refine wpAt_of_wpAny (wpAny_execs_nil ?_)
  exact hq h5 tk5 dx t1 ⟨fun b o hb e => k5 b o hb (kk b o hb e), hx5, Nat.le_trans z dn, dne, hn5⟩
end
end Dv
namespace Dv
open PySem PySem.W PySem.Calls PyProof.Rows PySem.HandSPX
/-- a made error -/
structure OwnMade (f : Str) (h h' : Heap) (e C d : Addr) (v : Value) : Prop where
  keep : ∀ b o, h.get? b = some o → h'.get? b = some o
  new : h.objs.size ≤ e
  obj : ∃ oe vs, h'.get? e = some oe ∧ oe.cls = .ref C ∧ oe.dict = some d ∧ oe.data = .fields vs ∧ vs[1]? = some .none
  dbig : h.objs.size ≤ d
  dne : d ≠ e
  ns : h'.Ns1 d (fun y => if y = f then some v else none)
/-- the binding of two parameters -/
def BindsErr (f : Str) : Prop := ∀ (s : Shared) (fd : FuncData) (x v : Value) (p1 p2 : Pos), fd.params = eA f p1 p2 → fd.defaults = .none → fd.kwdefaults = .none → BindsTo s fd ⟨[x, v], []⟩ [("self", x), (f, v)]
section
variable {prog : Program} {w : World} {A : Around} {E : Value → Shared → Prop} {R : Result → Shared → Prop} {s : Shared} {K : Frag} {mg mb : Str → Option Value} {C fI cc ca : Addr} {xn f : Str} {B newId initId : String} {bm : List Value}
theorem err_made (T : ErrT prog K mg xn f B newId initId bm C fI cc ca) (hb : BindsErr f) (hbt : ∀ x : Str, x ≠ "__name__" → mb x = bootBuiltins x) {v : Value} (X : K.In s.heap) (hG : s.heap.Ns mainGlobals mg) (hB : s.heap.Ns builtinsNs mb) (hlim : s.heap.NoLimit) (hroom : A.depth + 1 < recursionLimit)
    (hq : ∀ h' tk e d, OwnMade f s.heap h' e C d v → R (.ok (.ret (.ref e))) { s with heap := h', toks := tk }) :
    codeAny (model prog w) A (.call (.ref C) ⟨[v], []⟩) R s := by
  obtain ⟨nm, q, N, bs, sn, sub, ab, col, dd, k0, k1, k2, k3, k5, hC⟩ := T.cls
  obtain ⟨hp, g, dr, tk, os⟩ := s
  have k : ∀ b o, hp.get? b = some o → ((hp.push (kdv_tup [v])).push (excO C hp.objs.size)).get? b = some o := fun b o e => Heap.get?_push_of_some _ (Heap.get?_push_of_some _ e)
  have hget : ((hp.push (kdv_tup [v])).push (excO C hp.objs.size)).get? (hp.objs.size + 1) = some (excO C hp.objs.size) := by heap_get
  have hnx : K.lookup (hp.objs.size + 1) = none := by
    cases e : K.lookup (hp.objs.size + 1) with
    | none => rfl
    | some o =>
      have z : hp.get? (hp.objs.size + 1) = some o := X _ _ e
      exact absurd (Nat.lt_of_succ_lt (Heap.lt_size z)) (Nat.lt_irrefl _)
  refine call_own T.fact.F (fun _ => rfl) (X _ _ hC) (looks_findIn X T.iC) (fun self => bind_fn X self T.tC) (one_size v) ?_
  refine err_init (s := ⟨(hp.push (kdv_tup [v])).push (excO C hp.objs.size), g, dr, tk, os⟩) T hb hbt (X.keeps k) (hG.keeps k) (hB.keeps k) (hlim.keeps k) hget hnx ?_ fun h' tk' dx t1 ⟨k', hx, dn, dne, hns⟩ => ?_
  · show A.depth + 1 < recursionLimit
    exact hroom
  · have old : ∀ b o, hp.get? b = some o → h'.get? b = some o := fun b o e => k' b o (Nat.ne_of_lt (Nat.lt_succ_of_lt (Heap.lt_size e))) (k b o e)
    have z : hp.objs.size + 1 + 1 ≤ dx := by
      first
        | (simpa only [Heap.size_push] using dn)
        | exact dn
        | (have q := dn; rw [Heap.size_push, Heap.size_push] at q; exact q)
    exact ⟨rfl, hq h' tk' (hp.objs.size + 1) dx ⟨old, Nat.le_succ _, ⟨_, _, hx, rfl, rfl, rfl, rfl⟩, Nat.le_trans (Nat.le_trans (Nat.le_succ _) (Nat.le_succ _)) z, dne, hns⟩⟩
end
section
open L2
theorem relO_f {v : V} {v' : Value} (r : RelV v v') (f g : Str) : RelO (List.lookup g [(f, v)]) (if g = f then some v' else none) := by
  by_cases hw : g = f
  · subst hw
    rw [if_pos rfl]
    have q : List.lookup g [(g, v)] = some v := by simp [List.lookup]
    rw [q]
    exact r
  · rw [if_neg hw]
    have qw : (g == f) = false := by simpa using hw
    have q2 : List.lookup g [(f, v)] = none := by simp [List.lookup, qw]
    rw [q2]
    trivial
variable {X : Cx} {C fI cc ca : Addr} {xn f : Str} {B newId initId : String} {bm : List Value}
/-- x(e), x an own error -/
def tMkErr (C : Addr) (f : Str) (ta : TA) : L2.St → Hp → XK → Prop := fun σ H Q => ta σ H fun vs H1 => ∃ v, vs = [v] ∧ ∀ d, H1 d = none → Q (.ref C) (some d) (upd H1 d (.xd [(f, v)]))
theorem pmk_err {a : Expr} {ta : TA} {p pos : Pos} {k : Nat} (T : ErrT X.prog X.K X.mg xn f B newId initId bm C fI cc ca) (hb : BindsErr f) (hr : Room k X.A) (ha : PA X [a] ta) (hg : Gl X xn) (hd : (xn == ("__debug__" : Str)) = false)
    (he : starEach (a :: []) X.env = (false, eval a X.env) :: starEach [] X.env := by rfl) (hpl : (backTo pos (starEach [] X.env)).any (·.1) = false := by rfl) :
    PMk X (.Call (.Name xn p) [a] [] pos) (tMkErr C f ta) := by
  intro pins s σ H Q I h
  refine wpAny_Call_Name_kw (ld_glob I hg T.gC ?_ hd)
  refine PySem.W.callWith_K (h₀ := X.base) I.ok.mod.kin T.kC (thn (ha.run pos pins s σ H _ I h) fun us s1 hh => ?_) he hpl
  obtain ⟨vs, H1, I1, r1, v, ev, q1⟩ := hh
  subst ev
  refine ⟨I1.kIn, ?_⟩
  cases r1 with
  | cons rv rn =>
    rename_i v' us'
    cases rn
    show wpAny _ _ (call (.ref C) [v']) _ _ _
    have hlim := I1.nolimit
    have hG := I1.mod.glob.keeps I1.bk
    obtain ⟨mb, hB0, hbt⟩ := I1.mod.blt
    have hB := hB0.keeps I1.bk
    obtain ⟨hp, g, dr, tk, os⟩ := s1
    refine wpAny_call (err_made T hb hbt I1.kIn hG hB hlim (by have := hr.dp; omega) fun h' tk' e d M => ?_)
    show MkP X pins σ Q (.ref e) ⟨h', g, dr, tk', os⟩
    obtain ⟨oe, fv, hoe, hc, hd, hdat, h1⟩ := M.obj
    have hns := M.ns
    obtain ⟨G', g1, g2⟩ := restrict h' fun b => decide (b ≠ e)
    have gk : ∀ b, b ≠ e → G'.get? b = h'.get? b := fun b hb => g1 b (decide_eq_true hb)
    have ge : G'.get? e = none := g2 e (by simp)
    have old : ∀ b o, hp.get? b = some o → G'.get? b = some o := fun b o q => (gk b (Nat.ne_of_lt (Nat.lt_of_lt_of_le (Heap.lt_size q) M.new))).trans (M.keep b o q)
    have ob : ObjOk X.prog X.w (upd H1 d (.xd [(f, v)])) G' d (.xd [(f, v)]) :=
      ⟨_, hns.at (fun o q => (gk d M.dne).trans q), fun g => relO_f rv f g⟩
    have J : Inv X pins σ (upd H1 d (.xd [(f, v)])) ⟨G', g, dr, tk', os⟩ := I1.laid (t' := tk') old M.dbig ob
    refine ⟨e, oe, fv, ⟨G', g, dr, tk', os⟩, _, .ref C, some d, rfl, J, fun b o q => ?_, ge, hoe, ⟨hc, hd⟩, hdat, h1, ?_, rfl, I1.bare, raises_own T.exC T.tyC, q1 d (I1.hok.fresh M.dbig)⟩
    · by_cases hb : b = e
      · have q' : G'.get? b = some o := q
        rw [hb, ge] at q'; cases q'
      · exact (gk b hb).symm.trans q
    · rw [upd_ne (Ne.symm M.dne)]
      exact I1.hok.fresh M.new
end
end Dv
/-! text DS -/
set_option Elab.async false
set_option linter.all false
set_option maxRecDepth 100000
set_option maxHeartbeats 4000000
namespace Dv
open PySem PySem.Spec L2

theorem line_eq : (line : Nat) = sizeLine := by rw [sizeLine_eq]; rfl
section
variable {X : Cx} {bo : Option Addr} {F H : Hp}
theorem RpR.int {v : V} {i : Int} (r : RpR bo F H v (.int i)) : v = .int i := by
  cases (show Rp F v (.int i) from r)
  rfl
theorem RpR.str {v : V} {i : Str} (r : RpR bo F H v (.str i)) : v = .str i := by
  cases (show Rp F v (.str i) from r)
  rfl
theorem RpR.bool {v : V} {i : Bool} (r : RpR bo F H v (.bool i)) : v = .bl i := by
  cases (show Rp F v (.bool i) from r)
  rfl
theorem RpR.tup {v : V} {ds : List P} (r : RpR bo F H v (.tuple ds)) : ∃ a vs, v = .ref a ∧ F a = some (.tup vs) ∧ RpA F vs ds := by
  cases (show Rp F v (.tuple ds) from r) with
  | tup e r => exact ⟨_, _, rfl, e, r⟩
end
/-! ### keys -/
theorem keyEq0_D (a b : Key) : keyEq0 (keyD a) (keyD b) = decide (a = b) := by
  cases a with
  | inl i =>
    cases b with
    | inl j =>
      show decide (i = j) = _
      by_cases h : i = j
      · rw [h]
        simp
      · rw [decide_eq_false h, decide_eq_false (fun z => h (Sum.inl.inj z))]
    | inr y =>
      show false = _
      rw [decide_eq_false (fun z => nomatch z)]
  | inr x =>
    cases b with
    | inl j =>
      show false = _
      rw [decide_eq_false (fun z => nomatch z)]
    | inr y =>
      show decide (x = y) = _
      by_cases h : x = y
      · rw [h]
        simp
      · rw [decide_eq_false h, decide_eq_false (fun z => h (Sum.inr.inj z))]
theorem keyEq_D (a b : Key) : keyEq (keyD a) (keyD b) = decide (a = b) := by
  rw [← keyEq0_D]
  cases a <;> cases b <;> rfl
theorem keysEq0_D : ∀ a b : List Key, keysEq0 (a.map keyD) (b.map keyD) = decide (a = b)
  | [], [] => rfl
  | [], _ :: _ => rfl
  | _ :: _, [] => rfl
  | x :: xs, y :: ys => by
    show (keyEq0 (keyD x) (keyD y) && keysEq0 (xs.map keyD) (ys.map keyD)) = _
    rw [keyEq0_D, keysEq0_D xs ys]
    by_cases h : x = y
    · by_cases h2 : xs = ys
      · rw [h, h2]
        simp
      · rw [decide_eq_false h2, Bool.and_false, decide_eq_false (fun z => h2 (List.cons.inj z).2)]
    · rw [decide_eq_false h, Bool.false_and, decide_eq_false (fun z => h (List.cons.inj z).1)]
theorem keyEq_T (a b : List Key) : keyEq (.tuple (a.map keyD)) (.tuple (b.map keyD)) = decide (a = b) := keysEq0_D a b
theorem keyEq_non {k : P} : keyEq .none k = false := by cases k <;> rfl

/-! ### what a dict holds -/
section
variable {F H : Hp}
/-- found in both, or in neither -/
def RpO (F : Hp) : Option V → Option P → Prop
  | none, none => True
  | some v, some d => Rp F v d
  | _, _ => False
theorem rpK_get {k : Key} : ∀ {kvs : List (Key × V)} {ds : List (P × P)}, RpK F kvs ds → RpO F (valV kvs k) (dfind ds (keyD k))
  | _, _, .nil => True.intro
  | _, _, .cons (k := k') (v := v) (vs := vs) (d := d) (ds := ds) r t => by
    show RpO F (valV ((k', v) :: vs) k) (if keyEq (keyD k') (keyD k) then some d else dfind ds (keyD k))
    rw [keyEq_D]
    by_cases e : k' = k
    · rw [valV_pos (p := (k', v)) e, decide_eq_true e, if_pos rfl]
      exact r
    · rw [valV_neg (p := (k', v)) e, decide_eq_false e, if_neg Bool.false_ne_true]
      exact rpK_get t
theorem rpT_get {k : List Key} : ∀ {kvs : List (List Key × V)} {ds : List (P × P)}, RpT F kvs ds → RpO F (valV kvs k) (dfind ds (.tuple (k.map keyD)))
  | _, _, .nil => True.intro
  | _, _, .cons (k := k') (v := v) (vs := vs) (d := d) (ds := ds) r t => by
    show RpO F (valV ((k', v) :: vs) k) (if keyEq (.tuple (k'.map keyD)) (.tuple (k.map keyD)) then some d else dfind ds (.tuple (k.map keyD)))
    rw [keyEq_T]
    by_cases e : k' = k
    · rw [valV_pos (p := (k', v)) e, decide_eq_true e, if_pos rfl]
      exact r
    · rw [valV_neg (p := (k', v)) e, decide_eq_false e, if_neg Bool.false_ne_true]
      exact rpT_get t
theorem rpK_length : ∀ {kvs : List (Key × V)} {ds : List (P × P)}, RpK F kvs ds → kvs.length = ds.length
  | _, _, .nil => rfl
  | _, _, .cons _ t => congrArg (· + 1) (rpK_length t)
theorem rpT_length : ∀ {kvs : List (List Key × V)} {ds : List (P × P)}, RpT F kvs ds → kvs.length = ds.length
  | _, _, .nil => rfl
  | _, _, .cons _ t => congrArg (· + 1) (rpT_length t)
theorem rpK_any {k : Key} : ∀ {kvs : List (Key × V)} {ds : List (P × P)}, RpK F kvs ds → (kvs.any fun e => decide (e.1 = k)) = ds.any fun e => keyEq e.1 (keyD k)
  | _, _, .nil => rfl
  | _, _, .cons _ t => by
    rw [List.any_cons, List.any_cons, rpK_any t, keyEq_D]
theorem rpT_any {k : List Key} : ∀ {kvs : List (List Key × V)} {ds : List (P × P)}, RpT F kvs ds → (kvs.any fun e => decide (e.1 = k)) = ds.any fun e => keyEq e.1 (.tuple (k.map keyD))
  | _, _, .nil => rfl
  | _, _, .cons _ t => by
    rw [List.any_cons, List.any_cons, rpT_any t, keyEq_T]
theorem rpK_map {k : Key} {v : V} {d : P} (r : Rp F v d) : ∀ {kvs : List (Key × V)} {ds : List (P × P)}, RpK F kvs ds → RpK F (kvs.map fun e => if e.1 = k then (e.1, v) else e) (ds.map fun e => if keyEq e.1 (keyD k) then (e.1, d) else e)
  | _, _, .nil => .nil
  | _, _, .cons (k := k') q t => by
    rw [List.map_cons, List.map_cons]
    dsimp only
    rw [keyEq_D]
    by_cases e : k' = k
    · rw [if_pos e, decide_eq_true e, if_pos rfl]
      exact .cons r (rpK_map r t)
    · rw [if_neg e, decide_eq_false e, if_neg Bool.false_ne_true]
      exact .cons q (rpK_map r t)
theorem rpT_map {k : List Key} {v : V} {d : P} (r : Rp F v d) : ∀ {kvs : List (List Key × V)} {ds : List (P × P)}, RpT F kvs ds → RpT F (kvs.map fun e => if e.1 = k then (e.1, v) else e) (ds.map fun e => if keyEq e.1 (.tuple (k.map keyD)) then (e.1, d) else e)
  | _, _, .nil => .nil
  | _, _, .cons (k := k') q t => by
    rw [List.map_cons, List.map_cons]
    dsimp only
    rw [keyEq_T]
    by_cases e : k' = k
    · rw [if_pos e, decide_eq_true e, if_pos rfl]
      exact .cons r (rpT_map r t)
    · rw [if_neg e, decide_eq_false e, if_neg Bool.false_ne_true]
      exact .cons q (rpT_map r t)
theorem rpK_snoc {k : Key} {v : V} {d : P} (r : Rp F v d) : ∀ {kvs : List (Key × V)} {ds : List (P × P)}, RpK F kvs ds → RpK F (kvs ++ [(k, v)]) (ds ++ [(keyD k, d)])
  | _, _, .nil => .cons r .nil
  | _, _, .cons q t => .cons q (rpK_snoc r t)
theorem rpT_snoc {k : List Key} {v : V} {d : P} (r : Rp F v d) : ∀ {kvs : List (List Key × V)} {ds : List (P × P)}, RpT F kvs ds → RpT F (kvs ++ [(k, v)]) (ds ++ [(.tuple (k.map keyD), d)])
  | _, _, .nil => .cons r .nil
  | _, _, .cons q t => .cons q (rpT_snoc r t)
theorem rpK_put {k : Key} {v : V} {d : P} (r : Rp F v d) {kvs : List (Key × V)} {ds : List (P × P)} (q : RpK F kvs ds) : RpK F (putK kvs k v) (dput ds (keyD k) d) := by
  unfold putK dput
  rw [rpK_any q]
  by_cases h : (ds.any fun e => keyEq e.1 (keyD k)) = true
  · rw [if_pos h, if_pos h]
    exact rpK_map r q
  · rw [if_neg h, if_neg h]
    exact rpK_snoc r q
theorem rpT_put {k : List Key} {v : V} {d : P} (r : Rp F v d) {kvs : List (List Key × V)} {ds : List (P × P)} (q : RpT F kvs ds) : RpT F (putK kvs k v) (dput ds (.tuple (k.map keyD)) d) := by
  unfold putK dput
  rw [rpT_any q]
  by_cases h : (ds.any fun e => keyEq e.1 (.tuple (k.map keyD))) = true
  · rw [if_pos h, if_pos h]
    exact rpT_map r q
  · rw [if_neg h, if_neg h]
    exact rpT_snoc r q
theorem RpO.isSome {ov : Option V} {o : Option P} (r : RpO F ov o) : ov.isSome = o.isSome := by
  cases ov <;> cases o <;> first
    | rfl
    | exact r.elim
/-- marks ahead do not matter -/
theorem dfind_mark {m : P × P} (hm : m.1 = .none) {ds : List (P × P)} {k : P} : dfind (m :: ds) k = dfind ds k := by
  show (if keyEq m.1 k then some m.2 else dfind ds k) = _
  rw [hm, keyEq_non, if_neg Bool.false_ne_true]
theorem dput_mark {m : P × P} (hm : m.1 = .none) {ds : List (P × P)} {k v : P} : dput (m :: ds) k v = m :: dput ds k v := by
  unfold dput
  rw [List.any_cons, hm, keyEq_non, Bool.false_or]
  by_cases h : (ds.any fun e => keyEq e.1 k) = true
  · rw [if_pos h, if_pos h, List.map_cons, hm, keyEq_non, if_neg Bool.false_ne_true]
  · rw [if_neg h, if_neg h]
    rfl
/-- a key that is an int or a text -/
theorem key_K {k : P} {y : V} {bo : Option Addr} (h : keyOk false k = true) (r : RpR bo F H y k) : ∃ kk : Key, k = keyD kk ∧ y = kV kk := by
  cases k with
  | int i => exact ⟨.inl i, rfl, r.int⟩
  | str x => exact ⟨.inr x, rfl, r.str⟩
  | _ => cases h
theorem keys_T : ∀ {vs : List V} {xs : List P}, RpA F vs xs → xs.all isKey0 = true → ∃ ks : List Key, xs = ks.map keyD ∧ vs = ks.map kV
  | _, _, .nil, _ => ⟨[], rfl, rfl⟩
  | _, _, .cons (d := d) r t, h => by
    rw [List.all_cons, Bool.and_eq_true] at h
    obtain ⟨ks, e1, e2⟩ := keys_T t h.2
    subst e1 e2
    cases d with
    | int i =>
      cases r
      exact ⟨.inl i :: ks, rfl, rfl⟩
    | str x =>
      cases r
      exact ⟨.inr x :: ks, rfl, rfl⟩
    | _ => cases h.1
theorem key_T {k : P} {y : V} {bo : Option Addr} (h : keyOk true k = true) (r : RpR bo F H y k) : ∃ (ks : List Key) (b : Addr), k = .tuple (ks.map keyD) ∧ y = .ref b ∧ F b = some (.tup (ks.map kV)) := by
  cases k with
  | tuple xs =>
    obtain ⟨b, vs, e, hb, ra⟩ := r.tup
    obtain ⟨ks, e1, e2⟩ := keys_T ra h
    subst e1 e2
    exact ⟨ks, b, rfl, e, hb⟩
  | _ => cases h
theorem tq_K {kvs : List (Key × V)} {ds : List (P × P)} (r : RpK F kvs ds) : dTq ds = false ∧ dLk ds = false ∧ dcut ds = ds := by
  cases r with
  | nil => exact ⟨rfl, rfl, rfl⟩
  | cons q t =>
    rename_i k v vs d ds
    cases k <;> exact ⟨rfl, rfl, rfl⟩
theorem dc_get {bo : Option Addr} {a : Addr} {u : HO} {ds : List (P × P)} {y : V} {k : P} {o : Option P} (s : Same F H) (h : H a = some u) (r : DcO F u ds) (ry : RpR bo F H y k) (e : dgetD (.dict ds) k = some o) : ∃ ov, DGet H a y ov ∧ RpO F ov o := by
  have e : (if keyOk (dTq ds) k then some (dfind ds k) else none) = some o := e
  split at e
  · rename_i hk
    cases e
    cases r with
    | k r =>
      rw [(tq_K r).1] at hk
      obtain ⟨kk, rfl, rfl⟩ := key_K hk ry
      exact ⟨_, .inl ⟨_, kk, .inl h, rfl, rfl⟩, rpK_get r⟩
    | t r =>
      obtain ⟨ks, b, rfl, rfl, hb⟩ := key_T hk ry
      rw [dfind_mark rfl]
      exact ⟨_, .inr ⟨_, ks, b, .inl h, rfl, s _ _ hb, rfl⟩, rpT_get r⟩
    | kl r =>
      rename_i od kvs ds
      have : dTq (lMark :: ds) = dTq ds := rfl
      rw [this, (tq_K r).1] at hk
      obtain ⟨kk, rfl, rfl⟩ := key_K hk ry
      rw [dfind_mark rfl]
      exact ⟨_, .inl ⟨_, kk, .inr ⟨_, h⟩, rfl, rfl⟩, rpK_get r⟩
    | tl r =>
      obtain ⟨ks, b, rfl, rfl, hb⟩ := key_T hk ry
      rw [dfind_mark rfl, dfind_mark rfl]
      exact ⟨_, .inr ⟨_, ks, b, .inr ⟨_, h⟩, rfl, s _ _ hb, rfl⟩, rpT_get r⟩
  · cases e
theorem dc_put {bo : Option Addr} {a : Addr} {u : HO} {ds : List (P × P)} {y v : V} {k d z : P} (s : Same F H) (h : H a = some u) (r : DcO F u ds) (ry : RpR bo F H y k) (rv : Rp F v d) (e : dputD (.dict ds) k d = some z) :
    ∃ u' ds', z = .dict ds' ∧ DPut H a y v (upd H a u') ∧ DcO F u' ds' := by
  have e : (if keyOk (dTq ds) k && !dLk ds && Nat.ble (ds.length + 1) line then some (PyData.dict (dput ds k d)) else none) = some z := e
  split at e
  · rename_i hk
    cases e
    rw [Bool.and_eq_true, Bool.and_eq_true, Bool.not_eq_true'] at hk
    obtain ⟨⟨hk, hl⟩, hz⟩ := hk
    have hz := Nat.le_of_ble_eq_true hz
    rw [line_eq] at hz
    cases r with
    | k r =>
      rw [(tq_K r).1] at hk
      obtain ⟨kk, rfl, rfl⟩ := key_K hk ry
      exact ⟨_, _, rfl, .inl ⟨_, kk, h, rfl, by rw [rpK_length r]; omega, rfl⟩, .k (rpK_put rv r)⟩
    | t r =>
      obtain ⟨ks, b, rfl, rfl, hb⟩ := key_T hk ry
      rw [dput_mark rfl]
      rw [List.length_cons] at hz
      exact ⟨_, _, rfl, .inr ⟨_, ks, b, h, rfl, s _ _ hb, by rw [rpT_length r]; omega, rfl⟩, .t (rpT_put rv r)⟩
    | kl r => cases hl
    | tl r => cases hl
  · cases e
end
end Dv
/-! text D2 -/
set_option Elab.async false
set_option linter.all false
set_option maxRecDepth 100000
set_option maxHeartbeats 4000000
namespace Dv
open PySem PySem.Spec L2

/-! ### operations over values that stand for data -/
/-- a new tuple, frozen at once -/
theorem made_tup {F H : Hp} {p : Addr} {vs : List V} {ds : List P} (s : Same F H) (hp : H p = none) (r : RpA F vs ds) :
    ∃ F', Ext none F H F' (upd H p (.tup vs)) ∧ Rp F' (.ref p) (.tuple ds) := by
  have fp : F p = none := s.free hp
  have sf : Same F (upd F p (.tup vs)) := fun c o hc => by
    rw [upd_ne (ne_of_none hc fp)]
    exact hc
  refine ⟨upd F p (.tup vs), ⟨sf, fun c o hc => ?_, fun c o _ hc => ?_, fun c o h1 h2 => ?_⟩, .tup upd_same (r.mono sf)⟩
  · by_cases z : c = p
    · subst z
      rw [upd_same] at hc ⊢
      exact hc
    · rw [upd_ne z] at hc ⊢
      exact s _ _ hc
  · rw [upd_ne (ne_of_none hc hp)]
    exact hc
  · by_cases z : c = p
    · subst z
      exact hp
    · rw [upd_ne z, h1] at h2
      cases h2
/-- a new list, not frozen -/
theorem made_lst {bo : Option Addr} {F H : Hp} {b : Bx} {p : Addr} {vs : List V} {ds : List P} (s : Same F H) (q : BoxRep bo F H b) (hp : H p = none) (r : RpA F vs ds) :
    Ext none F H F (upd H p (.lst vs)) ∧ FrR bo H F (upd H p (.lst vs)) (.ref p) (.list ds) := by
  have fp : F p = none := s.free hp
  refine ⟨⟨Same.refl _, fun c o hc => ?_, fun c o _ hc => ?_, fun c o h1 h2 => ?_⟩, p, vs, rfl, fun z => ?_, hp, fp, upd_same, r⟩
  · rw [upd_ne (ne_of_none hc fp)]
    exact s _ _ hc
  · rw [upd_ne (ne_of_none hc hp)]
    exact hc
  · rw [h1] at h2
    cases h2
  · have := (q _ z.symm).2
    rw [hp] at this
    cases this
/-- what an operation of two values asks and gives -/
def rD (bo : Option Addr) (Rl : Hp → Hp → Hp → V → P → Prop) (f : P → P → Option P) : R2 := fun x y H Q => ∃ F b d d' z, Same F H ∧ BoxRep bo F H b ∧ RpR bo F H x d ∧ RpR bo F H y d' ∧ f d d' = some z ∧
  ∀ w F' H', Ext none F H F' H' → Rl H F' H' w z → Q w H'
def rB (bo : Option Addr) (f : P → P → Option Bool) : R2 := fun x y H Q => ∃ F b d d' z, Same F H ∧ BoxRep bo F H b ∧ RpR bo F H x d ∧ RpR bo F H y d' ∧ f d d' = some z ∧ Q (.bl z) H
section
variable {X : Cx} {bo : Option Addr} {F H : Hp}
def isNonD : P → Bool
  | .none => true
  | _ => false
theorem RpR.non_iff {v : V} {d : P} (r : RpR bo F H v d) : decide (v = .non) = isNonD d := by
  cases d with
  | none =>
    cases (show Rp F v .none from r)
    rfl
  | bool b =>
    cases (show Rp F v (.bool b) from r)
    rfl
  | int b =>
    cases (show Rp F v (.int b) from r)
    rfl
  | str b =>
    cases (show Rp F v (.str b) from r)
    rfl
  | list ds =>
    obtain ⟨a, vs, rfl, _⟩ := r
    rfl
  | tuple ds =>
    obtain ⟨a, vs, rfl, _⟩ := r.tup
    rfl
  | dict ds =>
    obtain ⟨a, vs, rfl, _⟩ := r
    rfl
theorem mulOk_iff {i j : Int} (h : mulOk i j = true) : CMul i j := by
  unfold mulOk at h
  unfold CMul
  rw [Bool.or_eq_true] at h
  rcases h with h | h
  · have := leN_iff h
    exact .inl ⟨by omega, by omega⟩
  · have := leN_iff h
    exact .inr ⟨by omega, by omega⟩
theorem op_addD : OpR X (binaryOp .Add) (rD bo (lF bo) (binD .add)) := by
  intro pins s σ H x y v u Q I rx ry h
  obtain ⟨F, b, d, d', z, sF, q, r1, r2, e, k⟩ := h
  unfold binD at e
  split at e <;> first | (cases e; done) | skip
  all_goals (try (rename_i h; cases h))
  all_goals first
    | (rename_i i j
       cases e
       rw [r1.int] at rx
       rw [r2.int] at ry
       exact op_add pins s σ H _ _ v u Q I rx ry ⟨_, _, rfl, rfl, k _ F H (Ext.refl sF) (.int _)⟩)
    | skip
  · rename_i xs ys
    split at e
    · cases e
      obtain ⟨a, vs, rfl, n, h, r⟩ := r1
      obtain ⟨a', vs', rfl, n', h', r'⟩ := r2
      refine op_cat pins s σ H _ _ v u Q I rx ry ⟨a, a', vs, vs', rfl, rfl, h, h', ?_, fun p hp => ?_⟩
      · rw [r.length, r'.length, ← line_eq]
        assumption
      · obtain ⟨m1, m2⟩ := made_lst sF q hp (r.append r')
        exact k _ _ _ m1 m2
    · cases e
  · rename_i xs ys
    split at e
    · cases e
      obtain ⟨a, vs, rfl, h, r⟩ := r1.tup
      obtain ⟨a', vs', rfl, h', r'⟩ := r2.tup
      refine op_catA pins s σ H _ _ v u Q I rx ry ⟨a, a', vs, vs', rfl, rfl, SqT.of (sF _ _ h), SqT.of (sF _ _ h'), ?_, fun e0 => ?_, fun _ e0 => ?_, fun _ _ p hp => ?_⟩
      · rw [r.length, r'.length, ← line_eq]
        assumption
      · subst e0
        cases r
        exact k _ F H (Ext.refl sF) (.tup h' r')
      · subst e0
        cases r'
        rw [List.append_nil] at k
        exact k _ F H (Ext.refl sF) (.tup h r)
      · obtain ⟨F', m1, m2⟩ := made_tup sF hp (r.append r')
        exact k _ _ _ m1 m2
    · cases e
  · rename_i xs ys
    split at e
    · cases e
      rw [r1.str] at rx
      rw [r2.str] at ry
      refine op_add_str pins s σ H _ _ v u Q I rx ry ⟨_, _, rfl, rfl, ?_, k _ F H (Ext.refl sF) (.str _)⟩
      rw [← line_eq]
      assumption
    · cases e
theorem op_subD : OpR X (binaryOp .Sub) (rD bo (lF bo) (binD .sub)) := by
  intro pins s σ H x y v u Q I rx ry h
  obtain ⟨F, b, d, d', z, sF, q, r1, r2, e, k⟩ := h
  unfold binD at e
  split at e <;> first | (cases e; done) | skip
  all_goals (try (rename_i h; cases h))
  rename_i i j
  cases e
  rw [r1.int] at rx
  rw [r2.int] at ry
  exact op_sub pins s σ H _ _ v u Q I rx ry ⟨_, _, rfl, rfl, k _ F H (Ext.refl sF) (.int _)⟩
theorem op_modD : OpR X (binaryOp .Mod) (rD bo (lF bo) (binD .mod)) := by
  intro pins s σ H x y v u Q I rx ry h
  obtain ⟨F, b, d, d', z, sF, q, r1, r2, e, k⟩ := h
  unfold binD at e
  split at e <;> first | (cases e; done) | skip
  all_goals (try (rename_i h; cases h))
  rename_i i j
  split at e
  · rename_i hj
    cases e
    rw [r1.int] at rx
    rw [r2.int] at ry
    exact op_modN pins s σ H _ _ v u Q I rx ry ⟨_, _, rfl, rfl, of_decide_eq_true hj, k _ F H (Ext.refl sF) (.int _)⟩
  · cases e
theorem op_fdivD : OpR X (binaryOp .FloorDiv) (rD bo (lF bo) (binD .fdiv)) := by
  intro pins s σ H x y v u Q I rx ry h
  obtain ⟨F, b, d, d', z, sF, q, r1, r2, e, k⟩ := h
  unfold binD at e
  split at e <;> first | (cases e; done) | skip
  all_goals (try (rename_i h; cases h))
  rename_i i j
  split at e
  · rename_i hj
    cases e
    rw [Bool.and_eq_true] at hj
    rw [r1.int] at rx
    rw [r2.int] at ry
    exact op_fdivN pins s σ H _ _ v u Q I rx ry ⟨_, _, rfl, rfl, ⟨of_decide_eq_true hj.1, of_decide_eq_true hj.2⟩, k _ F H (Ext.refl sF) (.int _)⟩
  · cases e
theorem op_powD : OpR X (binaryOp .Pow) (rD bo (lF bo) (binD .pow)) := by
  intro pins s σ H x y v u Q I rx ry h
  obtain ⟨F, b, d, d', z, sF, q, r1, r2, e, k⟩ := h
  unfold binD at e
  split at e <;> first | (cases e; done) | skip
  all_goals (try (rename_i h; cases h))
  rename_i i j
  split at e
  · rename_i hj
    cases e
    rw [Bool.and_eq_true, Bool.and_eq_true] at hj
    rw [r1.int] at rx
    rw [r2.int] at ry
    have h3 : i.natAbs < 18446744073709551616 := of_decide_eq_true hj.2
    exact op_pow pins s σ H _ _ v u Q I rx ry ⟨_, _, rfl, rfl, ⟨of_decide_eq_true hj.1.1, of_decide_eq_true hj.1.2, by omega⟩, k _ F H (Ext.refl sF) (.int _)⟩
  · cases e
theorem RpA.rep {vs : List V} {ds : List P} (r : RpA F vs ds) : ∀ n : Nat, RpA F (List.replicate n vs).flatten (List.replicate n ds).flatten
  | 0 => .nil
  | n + 1 => by
    rw [List.replicate_succ, List.replicate_succ, List.flatten_cons, List.flatten_cons]
    exact r.append (RpA.rep r n)
/-! tuple * int: all factors -/
theorem tuple_mulS (l : Addr) (items : Array Value) (n : Nat) (dd : Option Addr) (sl : Array (Option Value)) (x : Int) (u : Tok) (c0 : (decide (x < -(2 ^ 63)) || decide (x ≥ 2 ^ 63)) = false) (c1 : (items.isEmpty || x == 1) = true) :
    Meets (Builtin.«tuple.__mul__» ⟨[.ref l, .int x u], []⟩) (fun _ R s => s.heap.get? l = some { cls := .type "tuple", dict := dd, data := .seq items n, slots := sl } ∧ R (.ok (.ret (Value.ref l))) s) :=
  .of_wp fun prog w A R s h => by
    obtain ⟨hp, g, d, tk, os⟩ := s
    obtain ⟨hl, h⟩ := h
    have f1 := AutoSeq1.idx_int
    wp_walk using wpAny_loadPart' hl
    repeat (first
      | (refine wpAny_ite_false (decide_eq_false (by rw [c0]; exact Bool.false_ne_true)) ?_; wp_walk using wpAny_loadPart' hl)
      | (refine wpAny_ite_true (decide_eq_true c1) ?_; wp_walk using wpAny_loadPart' hl))
    exact ⟨_, rfl, h⟩
theorem tuple_mul0 (l : Addr) (items : Array Value) (n : Nat) (dd : Option Addr) (sl : Array (Option Value)) (x : Int) (u : Tok) (c0 : (decide (x < -(2 ^ 63)) || decide (x ≥ 2 ^ 63)) = false) (c1 : (items.isEmpty || x == 1) = false) (c2 : (decide (x ≤ 0) || items.isEmpty) = true) :
    Meets (Builtin.«tuple.__mul__» ⟨[.ref l, .int x u], []⟩) (fun _ R s => s.heap.get? l = some { cls := .type "tuple", dict := dd, data := .seq items n, slots := sl } ∧
      R (.ok (.ret (Value.ref s.heap.objs.size))) { s with heap := s.heap.push { cls := Value.type "tuple", data := Data.seq #[] }, toks := s.toks }) :=
  .of_wp fun prog w A R s h => by
    obtain ⟨hp, g, d, tk, os⟩ := s
    obtain ⟨hl, h⟩ := h
    have f1 := AutoSeq1.idx_int
    have hsz : (#[] : Array Value).size ≤ sizeLine := Nat.zero_le _
    wp_walk using wpAny_loadPart' hl
    repeat (first
      | (refine wpAny_ite_false (decide_eq_false (by rw [c0]; exact Bool.false_ne_true)) ?_; wp_walk using wpAny_loadPart' hl)
      | (refine wpAny_ite_false (decide_eq_false (by rw [c1]; exact Bool.false_ne_true)) ?_; wp_walk using wpAny_loadPart' hl)
      | (refine wpAny_ite_true (decide_eq_true c2) ?_; wp_walk using wpAny_loadPart' hl)
      | (refine wpAny_ite_false (decide_eq_false (Nat.not_lt.mpr hsz)) ?_; wp_walk using wpAny_loadPart' hl))
    exact ⟨_, rfl, h⟩
theorem flat_one {α : Type} {xs : List α} {j : Int} (h : xs = [] ∨ j = 1) : (List.replicate j.toNat xs).flatten = xs := by
  rcases h with h | h
  · subst h
    induction j.toNat with
    | zero => rfl
    | succ n ih =>
      rw [List.replicate_succ, List.flatten_cons, ih]
      rfl
  · subst h
    show (List.replicate 1 xs).flatten = xs
    simp
theorem op_tmul {pins : List (Addr × Obj)} {s : Shared} {σ : L2.St} {Q : VK} {v u : Value} {a : Addr} {vs : List V} {xs : List P} {j : Int} {b : Bx} (I : Inv X pins σ H s) (rx : RelV (.ref a) v) (ry : RelV (.int j) u) (sF : Same F H) (q : BoxRep bo F H b) (hT : F a = some (.tup vs)) (ra : RpA F vs xs)
    (h1 : -9223372036854775808 ≤ j) (h2 : j < 9223372036854775808) (h3 : xs.length * j.toNat ≤ line) (k : ∀ w F' H', Ext none F H F' H' → FrR bo H F' H' w (.tuple (List.replicate j.toNat xs).flatten) → Q w H') :
    wpAny (model X.prog X.w) X.A (binaryOp .Mult v u) (EP X pins σ Q) X.xe s := by
  cases rx
  obtain ⟨t, rfl⟩ := ry
  obtain ⟨its, r, ⟨⟨cls, dd, data, sl⟩, ho, hc, n, hd⟩, hs⟩ := I.tuple (SqT.of (sF _ _ hT))
  simp only at hc hd
  subst hc hd
  have hle : its.length = xs.length := r.length.symm.trans ra.length
  have c0 : (decide (j < -(2 ^ 63)) || decide (j ≥ 2 ^ 63)) = false := by
    rw [decide_eq_false (by omega), decide_eq_false (by omega)] <;> rfl
  have road : ∀ {R : Value → Shared → Prop}, wpAny (model X.prog X.w) X.A (call (.builtin "tuple.__mul__") [.ref a, .int j t]) R X.xe s → wpAny (model X.prog X.w) X.A (binaryOp .Mult (.ref a) (.int j t)) R X.xe s := fun {R} w =>
    wpAny_binaryOp_repeat_ref (T := "tuple") (U := "int") (by decide) ⟨_, ho, rfl⟩ (fun s' => typeIs_int s' j t) noFill_tuple_mul PySem.F.fills_int_mul PySem.F.slot_int_rmul repeat_tuple PySem.F.slot_int_index.lookup
    (call_meets PySem.F.slot_int_rmul (typeIs_int s j t) PySem.F.entry_int_rmul (PySem.F.args_int_rmul_2 _ _) (int_rmul_tuple j t a its.toArray n dd sl) ⟨ho, rfl, ⟨_, ho, rfl⟩, w⟩)
  by_cases hone : xs = [] ∨ j = 1
  · have c1 : (its.toArray.isEmpty || j == 1) = true := by
      rcases hone with e | e
      · have : its = [] := List.eq_nil_of_length_eq_zero (by rw [hle, e]; rfl)
        rw [this]
        rfl
      · rw [e, Bool.or_eq_true]
        exact .inr rfl
    refine road (call_meets PySem.F.slot_tuple_mul ⟨_, ho, rfl⟩ PySem.F.entry_tuple_mul (PySem.F.args_tuple_mul_2 _ _) (tuple_mulS a its.toArray n dd sl j t c0 c1) ⟨ho, ?_⟩)
    refine ⟨.ref a, H, I, rfl, k _ F H (Ext.refl sF) ?_⟩
    rw [flat_one hone]
    exact .tup hT ra
  · have hne : xs ≠ [] := fun e => hone (.inl e)
    have hj1 : j ≠ 1 := fun e => hone (.inr e)
    have hi : its.toArray.isEmpty = false := by
      cases its with
      | nil => exact absurd (List.eq_nil_of_length_eq_zero (by rw [← hle]; rfl)) hne
      | cons a b => rfl
    have c1 : (its.toArray.isEmpty || j == 1) = false := by
      rw [hi, Bool.false_or]
      exact beq_eq_false_iff_ne.mpr hj1
    by_cases hj0 : j ≤ 0
    · have c2 : (decide (j ≤ 0) || its.toArray.isEmpty) = true := by
        rw [decide_eq_true hj0]
        rfl
      refine road (call_meets PySem.F.slot_tuple_mul ⟨_, ho, rfl⟩ PySem.F.entry_tuple_mul (PySem.F.args_tuple_mul_2 _ _) (tuple_mul0 a its.toArray n dd sl j t c0 c1 c2) ⟨ho, ?_⟩)
      obtain ⟨F', m1, m2⟩ := made_tup (p := s.heap.objs.size) (vs := []) (ds := []) sF (I.hok.fresh (Nat.le_refl _)) .nil
      have e0 : (List.replicate j.toNat xs).flatten = [] := by
        have : j.toNat = 0 := by omega
        rw [this]
        rfl
      refine ⟨.ref s.heap.objs.size, _, I.laid (t' := s.toks) (o := .tup []) (fun b ob q => Heap.get?_push_of_some _ q) (Nat.le_refl _) ⟨Nat.zero_le _, [], .nil, PyProof.Rows.IsTup.new _ _⟩, rfl, k _ F' _ m1 ?_⟩
      rw [e0]
      exact m2
    · have c2 : (decide (j ≤ 0) || its.toArray.isEmpty) = false := by
        rw [hi, Bool.or_false]
        exact decide_eq_false hj0
      have hsz : its.toArray.size = xs.length := by rw [List.size_toArray, hle]
      have hmul : ((its.toArray.size : Nat) : Int) * j = ((xs.length * j.toNat : Nat) : Int) := by
        rw [hsz, Int.natCast_mul]
        congr 1
        omega
      have hln : (line : Int) = 16777216 := rfl
      have c3 : ¬ ((its.toArray.size : Nat) : Int) * j > (2 ^ 63 - 1) / 8 := by
        rw [hmul]
        omega
      have c4 : Builtin.Tuple.tupleTooMany (((its.toArray.size : Nat) : Int) * j) = false := by
        unfold Builtin.Tuple.tupleTooMany
        rw [hmul, ← line_eq]
        exact decide_eq_false (by omega)
      have flen : (List.replicate j.toNat its).flatten.length ≤ sizeLine := by
        rw [PyProof.Rows.lm_len_rep_flat, hle, ← line_eq, Nat.mul_comm]
        exact h3
      refine road (call_meets PySem.F.slot_tuple_mul ⟨_, ho, rfl⟩ PySem.F.entry_tuple_mul (PySem.F.args_tuple_mul_2 _ _) (tuple_mulW a its.toArray n dd sl j t c0 c1 c2 c3 c4 (by rw [size_rep, List.size_toArray]; exact flen)) ⟨ho, ?_⟩)
      rw [size_rep]
      obtain ⟨F', m1, m2⟩ := made_tup (p := s.heap.objs.size) sF (I.hok.fresh (Nat.le_refl _)) (ra.rep j.toNat)
      refine ⟨.ref s.heap.objs.size, _, I.laid (t' := s.toks) (o := .tup (List.replicate j.toNat vs).flatten) (fun b ob q => Heap.get?_push_of_some _ q) (Nat.le_refl _) ?_, rfl, k _ F' _ m1 m2⟩
      exact ⟨by rw [(ra.rep j.toNat).length, PyProof.Rows.lm_len_rep_flat, ← line_eq, Nat.mul_comm]; exact h3, _, r.rep j.toNat, PyProof.Rows.IsTup.new _ _⟩
theorem op_mulD : OpR X (binaryOp .Mult) (rD bo (lF bo) (binD .mul)) := by
  intro pins s σ H x y v u Q I rx ry h
  obtain ⟨F, b, d, d', z, sF, q, r1, r2, e, k⟩ := h
  cases d with
  | int i =>
    cases d' with
    | int j =>
      have e : (if mulOk i j then some (PyData.int (i * j)) else none) = some z := e
      split at e
      · rename_i hj
        cases e
        rw [r1.int] at rx
        rw [r2.int] at ry
        exact op_mul pins s σ H _ _ v u Q I rx ry ⟨_, _, rfl, rfl, mulOk_iff hj, k _ F H (Ext.refl sF) (.int _)⟩
      · cases e
    | _ => cases (show none = some z from e)
  | list xs =>
    cases d' with
    | int j =>
      have e : (repD xs j).map PyData.list = some z := e
      unfold repD at e
      split at e
      · rename_i hj
        rw [Bool.and_eq_true] at hj
        have hb := leN_iff hj.1
        have h1 : -9223372036854775808 ≤ j := by omega
        have h2 : j < 9223372036854775808 := by omega
        have h3 : xs.length * j.toNat ≤ line := Nat.le_of_ble_eq_true hj.2
        cases e
        obtain ⟨a, vs, rfl, n, h, r⟩ := r1
        rw [r2.int] at ry
        refine op_rep pins s σ H _ _ v u Q I rx ry ⟨a, j, vs, rfl, rfl, h, by omega, by omega, ?_, fun p hp => ?_⟩
        · rw [r.length, ← line_eq]
          exact h3
        · obtain ⟨m1, m2⟩ := made_lst sF q hp (r.rep j.toNat)
          exact k _ _ _ m1 m2
      · cases e
    | _ => cases (show none = some z from e)
  | tuple xs =>
    cases d' with
    | int j =>
      have e : (repD xs j).map PyData.tuple = some z := e
      unfold repD at e
      split at e
      · rename_i hj
        rw [Bool.and_eq_true] at hj
        have hb := leN_iff hj.1
        have h1 : -9223372036854775808 ≤ j := by omega
        have h2 : j < 9223372036854775808 := by omega
        have h3 : xs.length * j.toNat ≤ line := Nat.le_of_ble_eq_true hj.2
        cases e
        obtain ⟨a, vs, rfl, h, r⟩ := r1.tup
        rw [r2.int] at ry
        exact op_tmul I rx ry sF q h r h1 h2 h3 k
      · cases e
    | _ => cases (show none = some z from e)
  | none => cases d' <;> cases (show none = some z from e)
  | bool _ => cases d' <;> cases (show none = some z from e)
  | str _ => cases d' <;> cases (show none = some z from e)
  | dict _ => cases d' <;> cases (show none = some z from e)

/-! comparisons -/
theorem op_eqDD (hu : X.A.units + 64 < cLine) : OpR X (compareOp .Eq) (rB bo (cmpD .eq)) := by
  intro pins s σ H x y v u Q I rx ry h
  obtain ⟨F, b, d, d', z, sF, q, r1, r2, e, k⟩ := h
  unfold cmpD eqD at e
  simp only at e
  split at e
  · rename_i hs
    rw [Bool.and_eq_true] at hs
    cases e
    exact op_eqD hu pins s σ H x y v u Q I rx ry ⟨d, d', r1.dp sF (noD_shaped hs.1), r2.dp sF (noD_shaped hs.2), hs.1, hs.2, k⟩
  · cases e
theorem op_neDD (hu : X.A.units + 64 < cLine) : OpR X (compareOp .NotEq) (rB bo (cmpD .ne)) := by
  intro pins s σ H x y v u Q I rx ry h
  obtain ⟨F, b, d, d', z, sF, q, r1, r2, e, k⟩ := h
  unfold cmpD eqD at e
  simp only at e
  split at e
  · rename_i hs
    rw [Bool.and_eq_true] at hs
    cases e
    exact op_neD hu pins s σ H x y v u Q I rx ry ⟨d, d', r1.dp sF (noD_shaped hs.1), r2.dp sF (noD_shaped hs.2), hs.1, hs.2, k⟩
  · cases e
theorem op_ltDD (hu : X.A.units + 64 < cLine) : OpR X (compareOp .Lt) (rB bo (cmpD .lt)) := by
  intro pins s σ H x y v u Q I rx ry h
  obtain ⟨F, b, d, d', z, sF, q, r1, r2, e, k⟩ := h
  unfold cmpD at e
  simp only at e
  split at e
  · cases e
    rw [r1.int] at rx
    rw [r2.int] at ry
    exact op_lt pins s σ H _ _ v u Q I rx ry ⟨_, _, rfl, rfl, k⟩
  · split at e
    · rename_i ho
      cases e
      unfold ordD at ho
      rw [Bool.and_eq_true, Bool.and_eq_true, Bool.and_eq_true] at ho
      obtain ⟨⟨⟨h1, h2⟩, h3⟩, hnd⟩ := ho
      obtain ⟨as, q1⟩ := Dp.reads I _ x v (r1.dp (K := X.K) sF (Bool.and_eq_true_iff.mp hnd).1) rx
      obtain ⟨bs, q2⟩ := Dp.reads I _ y u (r2.dp (K := X.K) sF (Bool.and_eq_true_iff.mp hnd).2) ry
      refine PySem.W.lt_data q1 q2 h1 (fun z => by rw [z] at h2; cases h2) ?_ ⟨.bl _, H, I, rfl, k⟩
      have h3 := of_decide_eq_true h3
      have := Nat.min_le_left d.depth d'.depth
      omega
    · cases e
theorem op_leDD (hu : X.A.units + 64 < cLine) : OpR X (compareOp .LtE) (rB bo (cmpD .le)) := by
  intro pins s σ H x y v u Q I rx ry h
  obtain ⟨F, b, d, d', z, sF, q, r1, r2, e, k⟩ := h
  unfold cmpD at e
  simp only at e
  split at e
  · cases e
    rw [r1.int] at rx
    rw [r2.int] at ry
    exact op_le pins s σ H _ _ v u Q I rx ry ⟨_, _, rfl, rfl, k⟩
  · split at e
    · rename_i ho
      cases e
      unfold ordD at ho
      rw [Bool.and_eq_true, Bool.and_eq_true, Bool.and_eq_true] at ho
      obtain ⟨⟨⟨h1, h2⟩, h3⟩, hnd⟩ := ho
      obtain ⟨as, q1⟩ := Dp.reads I _ x v (r1.dp (K := X.K) sF (Bool.and_eq_true_iff.mp hnd).1) rx
      obtain ⟨bs, q2⟩ := Dp.reads I _ y u (r2.dp (K := X.K) sF (Bool.and_eq_true_iff.mp hnd).2) ry
      refine PySem.W.le_data q1 q2 h1 (fun z => by rw [z] at h2; cases h2) ?_ ⟨.bl _, H, I, rfl, k⟩
      have h3 := of_decide_eq_true h3
      have := Nat.min_le_left d.depth d'.depth
      omega
    · cases e
theorem op_gtDD (hu : X.A.units + 64 < cLine) : OpR X (compareOp .Gt) (rB bo (cmpD .gt)) := by
  intro pins s σ H x y v u Q I rx ry h
  obtain ⟨F, b, d, d', z, sF, q, r1, r2, e, k⟩ := h
  unfold cmpD at e
  simp only at e
  split at e
  · cases e
    rw [r1.int] at rx
    rw [r2.int] at ry
    exact op_gt pins s σ H _ _ v u Q I rx ry ⟨_, _, rfl, rfl, k⟩
  · split at e
    · rename_i ho
      cases e
      unfold ordD at ho
      rw [Bool.and_eq_true, Bool.and_eq_true, Bool.and_eq_true] at ho
      obtain ⟨⟨⟨h1, h2⟩, h3⟩, hnd⟩ := ho
      obtain ⟨as, q1⟩ := Dp.reads I _ x v (r1.dp (K := X.K) sF (Bool.and_eq_true_iff.mp hnd).1) rx
      obtain ⟨bs, q2⟩ := Dp.reads I _ y u (r2.dp (K := X.K) sF (Bool.and_eq_true_iff.mp hnd).2) ry
      refine PySem.W.gt_data q1 q2 h1 (fun z => by rw [z] at h2; cases h2) ?_ ⟨.bl _, H, I, rfl, k⟩
      have h3 := of_decide_eq_true h3
      have := Nat.min_le_left d.depth d'.depth
      omega
    · cases e
theorem op_geDD (hu : X.A.units + 64 < cLine) : OpR X (compareOp .GtE) (rB bo (cmpD .ge)) := by
  intro pins s σ H x y v u Q I rx ry h
  obtain ⟨F, b, d, d', z, sF, q, r1, r2, e, k⟩ := h
  unfold cmpD at e
  simp only at e
  split at e
  · cases e
    rw [r1.int] at rx
    rw [r2.int] at ry
    exact op_ge pins s σ H _ _ v u Q I rx ry ⟨_, _, rfl, rfl, k⟩
  · split at e
    · rename_i ho
      cases e
      unfold ordD at ho
      rw [Bool.and_eq_true, Bool.and_eq_true, Bool.and_eq_true] at ho
      obtain ⟨⟨⟨h1, h2⟩, h3⟩, hnd⟩ := ho
      obtain ⟨as, q1⟩ := Dp.reads I _ x v (r1.dp (K := X.K) sF (Bool.and_eq_true_iff.mp hnd).1) rx
      obtain ⟨bs, q2⟩ := Dp.reads I _ y u (r2.dp (K := X.K) sF (Bool.and_eq_true_iff.mp hnd).2) ry
      refine PySem.W.ge_data q1 q2 h1 (fun z => by rw [z] at h2; cases h2) ?_ ⟨.bl _, H, I, rfl, k⟩
      have h3 := of_decide_eq_true h3
      have := Nat.min_le_left d.depth d'.depth
      omega
    · cases e
theorem op_isDD : OpR X (compareOp .Is) (rB bo (cmpD .is_)) := by
  intro pins s σ H x y v u Q I rx ry h
  obtain ⟨F, b, d, d', z, sF, q, r1, r2, e, k⟩ := h
  unfold cmpD at e
  simp only at e
  split at e
  · have e := Option.some.inj e
    have hy : y = .non := by
      cases (show Rp F y .none from r2)
      rfl
    refine op_isN pins s σ H x y v u Q I rx ry ⟨hy, ?_⟩
    rw [r1.non_iff]
    rw [← e] at k
    cases d <;> exact k
  · cases e
theorem op_isnDD : OpR X (compareOp .IsNot) (rB bo (cmpD .isn)) := by
  intro pins s σ H x y v u Q I rx ry h
  obtain ⟨F, b, d, d', z, sF, q, r1, r2, e, k⟩ := h
  unfold cmpD at e
  simp only at e
  split at e
  · have e := Option.some.inj e
    have hy : y = .non := by
      cases (show Rp F y .none from r2)
      rfl
    refine op_notN pins s σ H x y v u Q I rx ry ⟨hy, ?_⟩
    rw [r1.non_iff]
    rw [← e] at k
    cases d <;> exact k
  · cases e
theorem signIn_eq {a c : Str} {z : Bool} (h : signIn a c = some z) : ∃ n, a = ⟨#[n]⟩ ∧ z = decide (n ∈ c.cps.toList) := by
  unfold signIn at h
  split at h
  · rename_i n hn
    refine ⟨n, ?_, ?_⟩
    · obtain ⟨l⟩ := a
      have : l = #[n] := by
        apply Array.toList_inj.mp
        exact hn
      rw [this]
    · rw [← Option.some.inj h, List.contains_eq_mem]
  · cases h
theorem op_inDD (hu : X.A.units + 65 < cLine) : OpR X (compareOp .In) (rB bo (cmpD .in_)) := by
  intro pins s σ H x y v u Q I rx ry h
  obtain ⟨F, b, d, d', z, sF, q, r1, r2, e, k⟩ := h
  unfold cmpD at e
  simp only at e
  split at e
  · obtain ⟨n, rfl, rfl⟩ := signIn_eq e
    rw [r1.str] at rx
    rw [r2.str] at ry
    exact op_in_sign pins s σ H _ _ v u Q I rx ry ⟨n, _, rfl, rfl, k⟩
  · rename_i ys
    split at e
    · rename_i hs
      rw [Bool.and_eq_true] at hs
      have e := Option.some.inj e
      rw [← e] at k
      exact op_inD hu pins s σ H x y v u Q I rx ry ⟨d, ys, r1.dp sF (noD_shaped hs.1), r2.dp sF (noD_shaped hs.2), hs.1, hs.2, k⟩
    · cases e
  · rename_i ys
    split at e
    · rename_i hs
      rw [Bool.and_eq_true] at hs
      have e := Option.some.inj e
      rw [← e] at k
      obtain ⟨as, q1⟩ := Dp.reads I d x v (r1.dp sF (noD_shaped hs.1)) rx
      obtain ⟨bs, q2⟩ := Dp.reads I (.tuple ys) y u (r2.dp sF (noD_shaped hs.2)) ry
      exact SeqAt.in_tuple_reads q2 q1 (SeqAt.canLay_of_shaped hs.2) (SeqAt.canLay_of_shaped hs.1) (PyProof.Rows.room_in_shaped hs.1 hu) ⟨.bl _, H, I, rfl, k⟩
    · cases e
  · rename_i ds
    obtain ⟨o, ho, e⟩ := Option.map_eq_some_iff.mp e
    obtain ⟨a, w, rfl, n, hh, rd⟩ := (show RpR bo F H y (.dict ds) from r2)
    obtain ⟨ov, g, ro⟩ := dc_get sF hh rd r1 ho
    obtain rfl : u = Value.ref a := ry
    refine d_in (by omega) I g rx fun s' I' => ⟨.bl _, H, I', rfl, ?_⟩
    rw [RpO.isSome ro, e]
    exact k
  · cases e
theorem op_ninDD (hu : X.A.units + 65 < cLine) : OpR X (compareOp .NotIn) (rB bo (cmpD .nin)) := by
  intro pins s σ H x y v u Q I rx ry h
  obtain ⟨F, b, d, d', z, sF, q, r1, r2, e, k⟩ := h
  unfold cmpD at e
  simp only at e
  split at e
  · cases hq : signIn _ _ with
    | none =>
      rw [hq] at e
      cases e
    | some t =>
      rw [hq] at e
      have e := Option.some.inj e
      obtain ⟨n, rfl, rfl⟩ := signIn_eq hq
      rw [r1.str] at rx
      rw [r2.str] at ry
      rw [← e] at k
      exact op_notIn_sign pins s σ H _ _ v u Q I rx ry ⟨n, _, rfl, rfl, k⟩
  · rename_i ys
    split at e
    · rename_i hs
      rw [Bool.and_eq_true] at hs
      have e := Option.some.inj e
      rw [← e] at k
      exact op_notInD hu pins s σ H x y v u Q I rx ry ⟨d, ys, r1.dp sF (noD_shaped hs.1), r2.dp sF (noD_shaped hs.2), hs.1, hs.2, k⟩
    · cases e
  · rename_i ys
    split at e
    · rename_i hs
      rw [Bool.and_eq_true] at hs
      have e := Option.some.inj e
      rw [← e] at k
      obtain ⟨as, q1⟩ := Dp.reads I d x v (r1.dp sF (noD_shaped hs.1)) rx
      obtain ⟨bs, q2⟩ := Dp.reads I (.tuple ys) y u (r2.dp sF (noD_shaped hs.2)) ry
      exact SeqAt.notIn_tuple_reads q2 q1 (SeqAt.canLay_of_shaped hs.2) (SeqAt.canLay_of_shaped hs.1) (PyProof.Rows.room_in_shaped hs.1 hu) ⟨.bl _, H, I, rfl, k⟩
    · cases e
  · rename_i ds
    obtain ⟨o, ho, e⟩ := Option.map_eq_some_iff.mp e
    obtain ⟨a, w, rfl, n, hh, rd⟩ := (show RpR bo F H y (.dict ds) from r2)
    obtain ⟨ov, g, ro⟩ := dc_get sF hh rd r1 ho
    obtain rfl : u = Value.ref a := ry
    refine d_notIn (by omega) I g rx fun s' I' => ⟨.bl _, H, I', rfl, ?_⟩
    rw [RpO.isSome ro, e]
    exact k
  · cases e
/-- a value's truth -/
theorem truV_of {K : PySem.W.Frag} {v : V} {d : P} {t : Bool} (s : Same F H) (r : RpR bo F H v d) (h : truD d = some t) : TruV K v H t := by
  cases d with
  | none =>
    cases (show Rp F v .none from r)
    exact (Option.some.inj h).symm
  | bool b =>
    rw [r.bool]
    exact (Option.some.inj h).symm
  | int i =>
    rw [r.int]
    exact (Option.some.inj h).symm
  | str x =>
    rw [r.str]
    have h : (if x.length ≤ line then some ((x.length : Int) != 0) else none) = some t := h
    split at h
    · rename_i hl
      exact ⟨by rw [← line_eq]; exact hl, (Option.some.inj h).symm⟩
    · cases h
  | list ds =>
    obtain ⟨a, vs, rfl, n, e, r⟩ := r
    refine .inl ⟨vs, SqL.of e, ?_⟩
    rw [← Option.some.inj h]
    cases r <;> rfl
  | tuple ds =>
    obtain ⟨a, vs, rfl, e, r⟩ := r.tup
    refine .inr (.inl ⟨vs, SqT.of (s _ _ e), ?_⟩)
    rw [← Option.some.inj h]
    cases r <;> rfl
  | dict ds => cases h

/-! items and slices -/
theorem RpA.atI {vs : List V} {ds : List P} {i : Int} {d : P} (r : RpA F vs ds) (h : L2.atI ds i = some d) : ∃ v, L2.atI vs i = some v ∧ Rp F v d := by
  unfold L2.atI at h ⊢
  rw [r.length]
  cases e : ixN ds.length i with
  | none =>
    rw [e] at h
    cases h
  | some j =>
    rw [e] at h
    obtain ⟨v, h1, h2⟩ := r.get h
    exact ⟨v, h1, h2⟩
open PyProof.Rows in
theorem ix_dict (hu : X.A.units + 1 < cLine) : IxR X (fun x y H Q => ∃ a v, x = .ref a ∧ DGet H a y (some v) ∧ Q v H) := by
  intro value slice pins s σ H x y v u Q I rx ry h hs
  obtain ⟨a, z, rfl, g, q⟩ := h
  obtain rfl : v = Value.ref a := rx
  have it : wpAny (model X.prog X.w) X.A (getItem (.ref a) u) (EP X pins σ Q) X.xe s := d_getItem hu I g ry fun w' s' I' r' => ⟨z, H, I', r', q⟩
  unfold subscriptTail
  refine wpAny_bind ?_
  rw [getitemInPython_of_ne (dict_typeIs I g).not_modules]
  refine wpAny_bind (wpAny_specialOf (dict_typeIs I g) PySem.F.slot_dict_getitem.lookup ?_)
  have fn : wpAny (model X.prog X.w) X.A (subscripted slice false (.ref a) u) (fun r s3 => wpAny (model X.prog X.w) X.A (letTemporaryGo value (.ref a) r >>= fun _ => pure r) (EP X pins σ Q) X.xe s3) X.xe s := by
    rw [hs]
    exact wpAny_operating (wpAny_mono it (fun r s3 h3 => wpAny_bind (wpAny_letTemporaryGo (wpAny_pure h3))) fun _ _ x => x)
  first | exact wpAny_pure (wpAny_bind fn) | exact wpAny_bind (wpAny_pure (wpAny_bind fn)) | exact wpAny_bind fn
theorem ix_D (hu : X.A.units + 1 < cLine) : IxR X (rD bo (lM bo .n) idxD) := by
  intro value slice pins s σ H x y v u Q I rx ry h hs
  obtain ⟨F, b, d, d', z, sF, q, r1, r2, e, k⟩ := h
  unfold idxD at e
  split at e
  · obtain ⟨a, vs, rfl, n, h, r⟩ := r1
    rw [r2.int] at ry
    obtain ⟨w, e1, e2⟩ := r.atI e
    exact ix_list value slice pins s σ H _ _ v u Q I rx ry ⟨a, vs, _, w, rfl, rfl, SqL.of h, e1, k _ F H (Ext.refl sF) e2⟩ hs
  · obtain ⟨a, vs, rfl, h, r⟩ := r1.tup
    rw [r2.int] at ry
    obtain ⟨w, e1, e2⟩ := r.atI e
    exact ix_tup value slice pins s σ H _ _ v u Q I rx ry ⟨a, vs, _, w, rfl, rfl, SqT.of (sF _ _ h), e1, k _ F H (Ext.refl sF) e2⟩ hs
  · split at e
    · rename_i hl
      rw [r1.str] at rx
      rw [r2.int] at ry
      cases e1 : L2.atI _ _ with
      | none =>
        rw [e1] at e
        cases e
      | some c =>
        rw [e1] at e
        cases e
        exact ix_str value slice pins s σ H _ _ v u Q I rx ry ⟨_, _, c, rfl, rfl, by rw [← line_eq]; exact hl, e1, k _ F H (Ext.refl sF) (.str _)⟩ hs
    · cases e
  · rename_i ds
    split at e
    · rename_i dv hg
      cases e
      obtain ⟨a, w, rfl, n, hh, rd⟩ := (show RpR bo F H x (.dict ds) from r1)
      obtain ⟨ov, g, ro⟩ := dc_get sF hh rd r2 hg
      cases ov with
      | none => exact ro.elim
      | some ov => exact ix_dict hu value slice pins s σ H _ _ v u Q I rx ry ⟨a, ov, rfl, g, k _ F H (Ext.refl sF) ro⟩ hs
    · cases e
  · cases e
theorem RpA.cut {vs : List V} {ds : List P} {lo hi : Option Int} (r : RpA F vs ds) : RpA F (cutV vs lo hi) (cutD ds lo hi) := by
  unfold cutV cutD
  rw [r.length]
  exact (r.drop _).take _
theorem cutD_whole {ds : List P} {lo hi : Option Int} (h : HT.sIx ds.length 0 lo = 0 ∧ HT.sIx ds.length ds.length hi = ds.length) : cutD ds lo hi = ds := by
  unfold cutD
  rw [h.1, h.2, List.drop_zero, Nat.sub_zero, List.take_length]
def rSlD (bo : Option Addr) : V → Option Int → Option Int → Hp → VK → Prop := fun x lo hi H Q => ∃ F b d z, Same F H ∧ BoxRep bo F H b ∧ RpR bo F H x d ∧
  (match d with | .list xs => some (PyData.list (cutD xs lo hi)) | .tuple xs => some (.tuple (cutD xs lo hi)) | _ => none) = some z ∧ ∀ w F' H', Ext none F H F' H' → FrR bo H F' H' w z → Q w H'
theorem sl_D : SlR X (rSlD bo) := by
  intro pins s σ H x v vl vu lo hi sl Q I rx hs pl pu h
  obtain ⟨F, b, d, z, sF, q, r1, e, k⟩ := h
  split at e
  · cases e
    obtain ⟨a, vs, rfl, n, h, r⟩ := r1
    refine sl_list pins s σ H _ v vl vu lo hi sl Q I rx hs pl pu ⟨a, vs, rfl, SqL.of h, fun p hp => ?_⟩
    obtain ⟨m1, m2⟩ := made_lst sF q hp r.cut
    exact k _ _ _ m1 m2
  · cases e
    obtain ⟨a, vs, rfl, h, r⟩ := r1.tup
    refine sl_tupA pins s σ H _ v vl vu lo hi sl Q I rx hs pl pu ⟨a, vs, rfl, SqT.of (sF _ _ h), fun hw => ?_, fun _ p hp => ?_⟩
    · rw [r.length] at hw
      rw [cutD_whole hw] at k
      exact k _ F H (Ext.refl sF) (.tup h r)
    · obtain ⟨F', m1, m2⟩ := made_tup sF hp r.cut
      exact k _ _ _ m1 m2
  · cases e
end
end Dv
/-! text D3 -/
set_option Elab.async false
set_option linter.all false
set_option maxRecDepth 100000
set_option maxHeartbeats 4000000
namespace Dv
open PySem PySem.Spec L2

/-! ### expressions: one rule a construct, over lifted readings -/
def plainT : Expr → Bool
  | .UnaryOp .Not _ _ => false
  | .BoolOp _ _ _ => false
  | .IfExp _ _ _ _ => false
  | .Compare _ _ _ _ => false
  | _ => true
theorem isTrue_of_plain {e : Expr} {env : PySem.Env} (h : plainT e = true) (whole : Sem Value) : isTrue e env whole = (do let v ← whole; standAt e.pos; holding [v] (truthy v)) := by
  cases e with
  | UnaryOp op x p =>
    cases op <;> first
      | rfl
      | cases h
  | _ => first
    | rfl
    | cases h
def notSet : Expr → Bool
  | .Set _ _ _ => false
  | _ => true
theorem notSet_marks {op : CmpOp} {e : Expr} (h : notSet e = true) : behindInMarks op e = false := by
  cases e <;> first
    | rfl
    | cases h
theorem notSet_folded {e : Expr} {env : PySem.Env} (h : notSet e = true) (x : Value) : foldedSetIterable e env x = pure x := by
  cases e <;> first
    | rfl
    | cases h
def notStar : Expr → Bool
  | .Starred _ _ => false
  | _ => true
theorem starEach_of {e : Expr} {es : List Expr} {env : PySem.Env} (h : notStar e = true) : starEach (e :: es) env = (false, eval e env) :: starEach es env := by
  cases e <;> first
    | rfl
    | cases h
def allPlain (es : List Expr) : Bool := es.all notStar
theorem noStars {env : PySem.Env} {pos : Pos} : ∀ {es : List Expr}, allPlain es = true → (backTo pos (starEach es env)).any (·.1) = false
  | [], _ => rfl
  | e :: es, h => by
    unfold allPlain at h
    rw [List.all_cons, Bool.and_eq_true] at h
    rw [starEach_of h.1]
    show (false || (backTo pos (starEach es env)).any (·.1)) = false
    rw [Bool.false_or]
    exact noStars (es := es) h.2

section
variable {X : Cx} {bo : Option Addr} {H0 : Hp} {cs : Cls'} {W : WX}
abbrev gT (g : Env → Bx → R P) : Env → Bx → R Bool := fun e b => (g e b).bind fun d b1 => R.ofO (truD d) b1
/-- what is shown of an expression: e reads as g -/
structure Snd (X : Cx) (bo : Option Addr) (H0 : Hp) (cs : Cls') (W : WX) (ov fr : Bool) (e : Expr) (g : Env → Bx → R P) : Prop where
  r : PE X e (lift bo H0 cs W (lM bo .r) g)
  n : ov = false → PE X e (lift bo H0 cs W (lM bo .n) g)
  f : fr = true → PE X e (lift bo H0 cs W (lF bo) g)
  t : PT X e (liftT bo H0 cs W (gT g))
theorem lift_r_n {g : Env → Bx → R P} : ∀ σ H Q, lift bo H0 cs W (lM bo .r) g σ H Q → lift bo H0 cs W (lM bo .n) g σ H Q := fun σ H Q ⟨e, b, F, p, h⟩ => by
  refine ⟨e, b, F, p, ?_⟩
  cases q : g e b with
  | ok d b1 =>
    rw [q] at h
    exact fun v F' H' x z r => h v F' H' x z (Rp.r x.sub z r)
  | ex c d b1 =>
    rw [q] at h
    exact h
  | no =>
    rw [q] at h
    exact h.elim
theorem lift_n_f {g : Env → Bx → R P} : ∀ σ H Q, lift bo H0 cs W (lM bo .n) g σ H Q → lift bo H0 cs W (lF bo) g σ H Q := fun σ H Q ⟨e, b, F, p, h⟩ => by
  refine ⟨e, b, F, p, ?_⟩
  cases q : g e b with
  | ok d b1 =>
    rw [q] at h
    intro v F' H' x z r
    obtain ⟨F'', x', z', _, r'⟩ := FrR.fz x z (fun _ h => h) r
    exact h v F'' H' x' z' r'
  | ex c d b1 =>
    rw [q] at h
    exact h
  | no =>
    rw [q] at h
    exact h.elim
/-- a test by the value's truth -/
theorem pt_of {e : Expr} {g : Env → Bx → R P} (h : PE X e (lift bo H0 cs W (lM bo .r) g)) (hp : plainT e = true) : PT X e (liftT bo H0 cs W (gT g)) :=
  PT.imp (pt_truth h (isTrue_of_plain hp)) fun σ H Q ⟨e, b, F, p, h⟩ => ⟨e, b, F, p, finT_bind p h fun d b1 v F1 H1 p1 x1 r1 h1 => by
    cases q : truD d with
    | none =>
      rw [q] at h1
      exact h1.elim
    | some t =>
      rw [q] at h1
      exact ⟨t, truV_of p1.sub r1 q, h1 F1 H1 (Ext.refl p1.sub) p1.box⟩⟩
theorem Snd.of_n {ov : Bool} {e : Expr} {g : Env → Bx → R P} (h : PE X e (lift bo H0 cs W (lM bo .n) g)) (hp : plainT e = true) : Snd X bo H0 cs W ov false e g :=
  have r := PE.imp h lift_r_n
  ⟨r, fun _ => h, (fun z => nomatch z), pt_of r hp⟩
theorem Snd.of_f {ov fr : Bool} {e : Expr} {g : Env → Bx → R P} (h : PE X e (lift bo H0 cs W (lF bo) g)) (hp : plainT e = true) : Snd X bo H0 cs W ov fr e g :=
  have n := PE.imp h lift_n_f
  have r := PE.imp n lift_r_n
  ⟨r, fun _ => n, fun _ => h, pt_of r hp⟩

/-! names -/
theorem slot_get {F H : Hp} {σ : L2.St} {e : Env} (p : EnvRep bo H0 F H σ e) {i : Nat} {d : P} (h : getV e i = some d) : ∃ v, σ[i]? = some (some v) ∧ Rp F v d := by
  unfold getV at h
  split at h
  · rename_i d' hd
    cases h
    obtain ⟨v, h1, h2⟩ := p.sl i _ hd
    refine ⟨v, ?_, h2⟩
    cases q : σ[i]? with
    | none =>
      rw [q] at h1
      cases h1
    | some o =>
      rw [q] at h1
      exact congrArg some h1
  · cases h
theorem own_get {F H : Hp} {σ : L2.St} {e : Env} (p : EnvRep bo H0 F H σ e) {i : Nat} {d : P} (h : getO e i = some d) : ∃ a, σ[i]? = some (some (.ref a)) ∧ Ow bo H0 F H a d := by
  unfold getO at h
  split at h
  · rename_i d' hd
    cases h
    obtain ⟨v, h1, h2⟩ := p.sl i _ hd
    refine ⟨v, ?_, h2⟩
    cases q : σ[i]? with
    | none =>
      rw [q] at h1
      cases h1
    | some o =>
      rw [q] at h1
      exact congrArg some h1
  · cases h
theorem snd_var {i : Nat} {x : Str} {pos : Pos} {ov : Bool} (hN : X.N[i]? = some x) (hv : Vis X.env.scope x) (hd : (x == ("__debug__" : Str)) = false) (hcd : (x == ("__classdict__" : Str)) = false) :
    Snd X bo H0 cs W ov false (.Name x pos) fun e b => R.ofO (getV e i) b :=
  Snd.of_n (PE.imp (pe_var hN hv hd hcd) fun σ H Q ⟨e, b, F, p, h⟩ => by
    dsimp only at h
    cases q : getV e i with
    | none =>
      rw [q] at h
      exact h.elim
    | some d =>
      rw [q] at h
      obtain ⟨v, h1, h2⟩ := slot_get p.env q
      exact ⟨v, h1, h v F H (Ext.refl p.sub) p.box h2⟩) rfl
theorem snd_ovar {i : Nat} {x : Str} {pos : Pos} (hN : X.N[i]? = some x) (hv : Vis X.env.scope x) (hd : (x == ("__debug__" : Str)) = false) (hcd : (x == ("__classdict__" : Str)) = false) :
    Snd X bo H0 cs W true false (.Name x pos) fun e b => R.ofO (getO e i) b := by
  have r : PE X (.Name x pos) (lift bo H0 cs W (lM bo .r) fun e b => R.ofO (getO e i) b) := PE.imp (pe_var hN hv hd hcd) fun σ H Q ⟨e, b, F, p, h⟩ => by
    dsimp only at h
    cases q : getO e i with
    | none =>
      rw [q] at h
      exact h.elim
    | some d =>
      rw [q] at h
      obtain ⟨a, h1, h2⟩ := own_get p.env q
      cases d with
      | list ds =>
        obtain ⟨n, _, _, vs, h3, h4⟩ := h2
        exact ⟨.ref a, h1, h _ F H (Ext.refl p.sub) p.box ⟨a, vs, rfl, n, h3, h4⟩⟩
      | dict ds =>
        obtain ⟨n, _, _, vs, h3, h4⟩ := h2
        exact ⟨.ref a, h1, h _ F H (Ext.refl p.sub) p.box ⟨a, vs, rfl, n, h3, h4⟩⟩
      | _ => exact h2.elim
  exact ⟨r, (fun z => nomatch z), (fun z => nomatch z), pt_of r rfl⟩
/-- a value that does not lean on the heap -/
inductive Flt : V → P → Prop
  | non : Flt .non .none
  | bl (b : Bool) : Flt (.bl b) (.bool b)
  | int (i : Int) : Flt (.int i) (.int i)
  | str (x : Str) : Flt (.str x) (.str x)
theorem Flt.rp {F : Hp} {v : V} {d : P} (h : Flt v d) : Rp F v d := by
  cases h
  · exact .non
  · exact .bl _
  · exact .int _
  · exact .str _
theorem Flt.fr {F H H' : Hp} {v : V} {d : P} (h : Flt v d) : FrR bo H F H' v d := by
  cases h
  · exact Rp.non
  · exact Rp.bl _
  · exact Rp.int _
  · exact Rp.str _
theorem snd_flat {ov fr : Bool} {e : Expr} {v : V} {d : P} (hf : Flt v d) (h : PE X e (tC v)) (hp : plainT e = true) : Snd X bo H0 cs W ov fr e fun _ b => .ok d b :=
  Snd.of_f (PE.imp h fun σ H Q ⟨e, b, F, p, h⟩ => h v F H (Ext.refl p.sub) p.box hf.fr) hp

/-! operators -/
theorem op2 {Rl : Hp → Hp → Hp → V → P → Prop} {f : P → P → Option P} {ga gb : Env → Bx → R P} (hR : ∀ H H1 F' H' v d, Rl H1 F' H' v d → (∀ a, H1 a = none → H a = none) → Rl H F' H' v d) (σ : L2.St) (H : Hp) (Q : VK)
    (h : lift bo H0 cs W Rl (fun e b => (ga e b).bind fun d b1 => (gb e b1).bind fun d' b2 => R.ofO (f d d') b2) σ H Q) : tOp (rD bo Rl f) (lift bo H0 cs W (lM bo .r) ga) (lift bo H0 cs W (lM bo .r) gb) σ H Q := by
  obtain ⟨e, b, F, p, h⟩ := h
  refine ⟨e, b, F, p, fin_bind hR p h fun d b1 v F1 H1 p1 x1 r1 h1 => ⟨e, b1, F1, p1, fin_bind hR p1 h1 fun d' b2 v' F2 H2 p2 x2 r2 h2 => ?_⟩⟩
  cases q : f d d' with
  | none =>
    rw [q] at h2
    exact h2.elim
  | some z =>
    rw [q] at h2
    exact ⟨F2, b2, d, d', z, p2.sub, p2.box, RpR.mono x2 r1, r2, q, fun w F' H' x r => h2 w F' H' x.of_none (x.box p2.box) r⟩
theorem hRMm {m : Mo} : ∀ (H H1 F' H' : Hp) v d, lM bo m H1 F' H' v d → (∀ a, H1 a = none → H a = none) → lM bo m H F' H' v d := fun _ _ _ _ _ _ h _ => h
theorem hRFf : ∀ (H H1 F' H' : Hp) v d, lF bo H1 F' H' v d → (∀ a, H1 a = none → H a = none) → lF bo H F' H' v d := fun H H1 F' H' v d h hn => hRF F' H' v d h hn
theorem snd_bin {ov o1 o2 f1 f2 : Bool} {op : Operator} {f : P → P → Option P} {a b : Expr} {pos : Pos} {ga gb : Env → Bx → R P} (ho : OpR X (binaryOp op) (rD bo (lF bo) f)) (ha : Snd X bo H0 cs W o1 f1 a ga) (hb : Snd X bo H0 cs W o2 f2 b gb) :
    Snd X bo H0 cs W ov true (.BinOp a op b pos) fun e b => (ga e b).bind fun d b1 => (gb e b1).bind fun d' b2 => R.ofO (f d d') b2 :=
  Snd.of_f (PE.imp (pe_op ho ha.r hb.r) (op2 hRFf)) rfl
theorem cmp2 {f : P → P → Option Bool} {ga gb : Env → Bx → R P} (σ : L2.St) (H : Hp) (Q : VK)
    (h : lift bo H0 cs W (lF bo) (fun e b => (ga e b).bind fun d b1 => (gb e b1).bind fun d' b2 => R.ofO ((f d d').map .bool) b2) σ H Q) : tOp (rB bo f) (lift bo H0 cs W (lM bo .r) ga) (lift bo H0 cs W (lM bo .r) gb) σ H Q := by
  obtain ⟨e, b, F, p, h⟩ := h
  refine ⟨e, b, F, p, fin_bind hRFf p h fun d b1 v F1 H1 p1 x1 r1 h1 => ⟨e, b1, F1, p1, fin_bind hRFf p1 h1 fun d' b2 v' F2 H2 p2 x2 r2 h2 => ?_⟩⟩
  cases q : f d d' with
  | none =>
    rw [q] at h2
    exact h2.elim
  | some z =>
    rw [q] at h2
    exact ⟨F2, b2, d, d', z, p2.sub, p2.box, RpR.mono x2 r1, r2, q, h2 _ F2 H2 (Ext.refl p2.sub) p2.box (Flt.bl z).fr⟩
theorem bind_assoc {α β γ : Type} (r : R α) (f : α → Bx → R β) (g : β → Bx → R γ) : (r.bind f).bind g = r.bind fun a b => (f a b).bind g := by
  cases r <;> rfl
theorem cmp2T {f : P → P → Option Bool} {ga gb : Env → Bx → R P} (σ : L2.St) (H : Hp) (Q : Bool → Hp → Prop)
    (h : liftT bo H0 cs W (gT fun e b => (ga e b).bind fun d b1 => (gb e b1).bind fun d' b2 => R.ofO ((f d d').map .bool) b2) σ H Q) : tTest (tOp (rB bo f) (lift bo H0 cs W (lM bo .r) ga) (lift bo H0 cs W (lM bo .r) gb)) σ H Q := by
  obtain ⟨e, b, F, p, h⟩ := h
  dsimp only [gT] at h
  rw [bind_assoc] at h
  refine ⟨e, b, F, p, finT_bind p h fun d b1 v F1 H1 p1 x1 r1 h1 => ⟨e, b1, F1, p1, ?_⟩⟩
  rw [bind_assoc] at h1
  refine finT_bind p1 h1 fun d' b2 v' F2 H2 p2 x2 r2 h2 => ?_
  cases q : f d d' with
  | none =>
    rw [q] at h2
    exact h2.elim
  | some z =>
    rw [q] at h2
    exact ⟨F2, b2, d, d', z, p2.sub, p2.box, RpR.mono x2 r1, r2, q, z, rfl, h2 F2 H2 (Ext.refl p2.sub) p2.box⟩
theorem snd_cmp {ov o1 o2 f1 f2 fr : Bool} {op : CmpOp} {f : P → P → Option Bool} {a b : Expr} {pos : Pos} {ga gb : Env → Bx → R P} (ho : OpR X (compareOp op) (rB bo f)) (ha : Snd X bo H0 cs W o1 f1 a ga) (hb : Snd X bo H0 cs W o2 f2 b gb) (hm : notSet b = true) :
    Snd X bo H0 cs W ov fr (.Compare a [op] [b] pos) fun e b => (ga e b).bind fun d b1 => (gb e b1).bind fun d' b2 => R.ofO ((f d d').map .bool) b2 :=
  have f := PE.imp (pe_cmpR ho ha.r hb.r (notSet_marks hm)) cmp2
  have n := PE.imp f lift_n_f
  ⟨PE.imp n lift_r_n, fun _ => n, fun _ => f, PT.imp (pt_cmpR ho ha.r hb.r (notSet_marks hm)) cmp2T⟩
/-- a op1 b op2 c -/
abbrev gChain (f1 f2 : P → P → Option Bool) (ga gb gc : Env → Bx → R P) : Env → Bx → R P := fun e b => (ga e b).bind fun d b1 => (gb e b1).bind fun d' b2 => match f1 d d' with
    | some true => (gc e b2).bind fun d'' b3 => R.ofO ((f2 d' d'').map .bool) b3
    | some false => .ok (.bool false) b2
    | none => .no
theorem chain2 {f1 f2 : P → P → Option Bool} {ga gb gc : Env → Bx → R P} (σ : L2.St) (H : Hp) (Q : VK) (h : lift bo H0 cs W (lF bo) (gChain f1 f2 ga gb gc) σ H Q) :
    tChain (rB bo f1) (rB bo f2) (lift bo H0 cs W (lM bo .r) ga) (lift bo H0 cs W (lM bo .r) gb) (lift bo H0 cs W (lM bo .r) gc) σ H Q := by
  obtain ⟨e, b, F, p, h⟩ := h
  refine ⟨e, b, F, p, fin_bind hRFf p h fun d b1 v F1 H1 p1 x1 r1 h1 => ⟨e, b1, F1, p1, fin_bind hRFf p1 h1 fun d' b2 v' F2 H2 p2 x2 r2 h2 => ?_⟩⟩
  try dsimp only at h2
  split at h2
  · rename_i q
    refine ⟨F2, b2, d, d', true, p2.sub, p2.box, RpR.mono x2 r1, r2, q, true, rfl, ?_⟩
    rw [if_pos rfl]
    refine ⟨e, b2, F2, p2, fin_bind hRFf p2 h2 fun d'' b3 v'' F3 H3 p3 x3 r3 h3 => ?_⟩
    cases q' : f2 d' d'' with
    | none =>
      rw [q'] at h3
      exact h3.elim
    | some z =>
      rw [q'] at h3
      exact ⟨F3, b3, d', d'', z, p3.sub, p3.box, RpR.mono x3 r2, r3, q', h3 _ F3 H3 (Ext.refl p3.sub) p3.box (Flt.bl z).fr⟩
  · rename_i q
    refine ⟨F2, b2, d, d', false, p2.sub, p2.box, RpR.mono x2 r1, r2, q, false, rfl, ?_⟩
    rw [if_neg (by decide)]
    exact h2 _ F2 H2 (Ext.refl p2.sub) p2.box (Flt.bl false).fr
  · exact h2.elim
theorem chain2T {f1 f2 : P → P → Option Bool} {ga gb gc : Env → Bx → R P} (σ : L2.St) (H : Hp) (Q : Bool → Hp → Prop) (h : liftT bo H0 cs W (gT (gChain f1 f2 ga gb gc)) σ H Q) :
    tTest (tChain (rB bo f1) (rB bo f2) (lift bo H0 cs W (lM bo .r) ga) (lift bo H0 cs W (lM bo .r) gb) (lift bo H0 cs W (lM bo .r) gc)) σ H Q := by
  obtain ⟨e, b, F, p, h⟩ := h
  dsimp only [gT, gChain] at h
  rw [bind_assoc] at h
  refine ⟨e, b, F, p, finT_bind p h fun d b1 v F1 H1 p1 x1 r1 h1 => ⟨e, b1, F1, p1, ?_⟩⟩
  rw [bind_assoc] at h1
  refine finT_bind p1 h1 fun d' b2 v' F2 H2 p2 x2 r2 h2 => ?_
  try dsimp only at h2
  split at h2
  · rename_i q
    refine ⟨F2, b2, d, d', true, p2.sub, p2.box, RpR.mono x2 r1, r2, q, true, rfl, ?_⟩
    rw [if_pos rfl]
    rw [bind_assoc] at h2
    refine ⟨e, b2, F2, p2, finT_bind p2 h2 fun d'' b3 v'' F3 H3 p3 x3 r3 h3 => ?_⟩
    cases q' : f2 d' d'' with
    | none =>
      rw [q'] at h3
      exact h3.elim
    | some z =>
      rw [q'] at h3
      exact ⟨F3, b3, d', d'', z, p3.sub, p3.box, RpR.mono x3 r2, r3, q', z, rfl, h3 F3 H3 (Ext.refl p3.sub) p3.box⟩
  · rename_i q
    refine ⟨F2, b2, d, d', false, p2.sub, p2.box, RpR.mono x2 r1, r2, q, false, rfl, ?_⟩
    rw [if_neg (by decide)]
    exact ⟨false, rfl, h2 F2 H2 (Ext.refl p2.sub) p2.box⟩
  · exact h2.elim
theorem snd_chain {ov o1 o2 o3 f1 f2 f3 fr : Bool} {op op' : CmpOp} {f f' : P → P → Option Bool} {a b c : Expr} {pos : Pos} {ga gb gc : Env → Bx → R P} (ho : OpR X (compareOp op) (rB bo f)) (ho' : OpR X (compareOp op') (rB bo f'))
    (ha : Snd X bo H0 cs W o1 f1 a ga) (hb : Snd X bo H0 cs W o2 f2 b gb) (hc : Snd X bo H0 cs W o3 f3 c gc) (hm : notSet c = true) : Snd X bo H0 cs W ov fr (.Compare a [op, op'] [b, c] pos) (gChain f f' ga gb gc) :=
  have hl : lastMarks [op, op'] [b, c] = false := notSet_marks hm
  have f := PE.imp (pe_chain ho ho' ha.r hb.r hc.r hl) chain2
  have n := PE.imp f lift_n_f
  ⟨PE.imp n lift_r_n, fun _ => n, fun _ => f, PT.imp (pt_chain ho ho' ha.r hb.r hc.r hl) chain2T⟩

/-! a op1 b op2 c op3 d -/
def tChain3 (r r' r'' : R2) (ta tb tc td : TE) : TE := fun σ H Q => ta σ H fun x H1 => tb σ H1 fun y H2 => r x y H2 fun z H3 => ∃ k, z = .bl k ∧
  (if k = true then tc σ H3 fun u H4 => r' y u H4 fun z2 H5 => ∃ k2, z2 = .bl k2 ∧ (if k2 = true then td σ H5 fun w H6 => r'' u w H6 Q else Q (.bl false) H5) else Q (.bl false) H3)
theorem pe_chain3 {op op' op'' : CmpOp} {r r' r'' : R2} {a b c d : Expr} {ta tb tc td : TE} {pos : Pos} (ho : OpR X (compareOp op) r) (ho' : OpR X (compareOp op') r') (ho'' : OpR X (compareOp op'') r'') (ha : PE X a ta) (hb : PE X b tb) (hc : PE X c tc) (hd : PE X d td)
    (hm : lastMarks [op, op', op''] [b, c, d] = false) : PE X (.Compare a [op, op', op''] [b, c, d] pos) (tChain3 r r' r'' ta tb tc td) := by
  refine ⟨fun pins s σ H Q I h => ?_⟩
  refine PyProof.Rows.Compare_chain (thn (ha.run pins s σ H _ I h) fun v s1 ⟨x, H1, I1, r1, q1⟩ => PyProof.Rows.chain_link (thn (hb.run pins s1 σ H1 _ I1 q1) fun u s2 ⟨y, H2, I2, r2, q2⟩ =>
    thn (ho pins s2 σ H2 x y v u _ I2 r1 r2 q2) fun d s3 ⟨z, H3, I3, r3, k, e, q3⟩ => ?_)) hm
  subst e
  cases r3
  refine wpAny_truthy_bool ?_
  cases k with
  | false => exact PyProof.Rows.ite_ff ⟨.bl false, H3, I3, rfl, q3⟩
  | true =>
    refine PyProof.Rows.ite_tt (PyProof.Rows.chain_link (thn (hc.run pins s3 σ H3 _ I3 q3) fun w' s4 ⟨z', H4, I4, r4, q4⟩ => thn (ho' pins s4 σ H4 y z' u w' _ I4 r2 r4 q4) fun d s5 ⟨z5, H5, I5, r5, k5, e5, q5⟩ => ?_))
    subst e5
    cases r5
    refine wpAny_truthy_bool ?_
    cases k5 with
    | false => exact PyProof.Rows.ite_ff ⟨.bl false, H5, I5, rfl, q5⟩
    | true => exact PyProof.Rows.ite_tt (PyProof.Rows.chain_last (thn (hd.run pins s5 σ H5 _ I5 q5) fun w6 s6 ⟨z6, H6, I6, r6, q6⟩ => ho'' pins s6 σ H6 z' z6 w' w6 Q I6 r4 r6 q6))
theorem pt_chain3 {op op' op'' : CmpOp} {r r' r'' : R2} {a b c d : Expr} {ta tb tc td : TE} {pos : Pos} (ho : OpR X (compareOp op) r) (ho' : OpR X (compareOp op') r') (ho'' : OpR X (compareOp op'') r'') (ha : PE X a ta) (hb : PE X b tb) (hc : PE X c tc) (hd : PE X d td)
    (hm : lastMarks [op, op', op''] [b, c, d] = false) : PT X (.Compare a [op, op', op''] [b, c, d] pos) (tTest (tChain3 r r' r'' ta tb tc td)) := by
  refine ⟨fun pins s σ H Q I h => ?_⟩
  refine PyProof.Rows.isTrue_chain (thn (ha.run pins s σ H _ I h) fun v s1 ⟨x, H1, I1, r1, q1⟩ => PyProof.Rows.test_link (thn (hb.run pins s1 σ H1 _ I1 q1) fun u s2 ⟨y, H2, I2, r2, q2⟩ =>
    thn (ho pins s2 σ H2 x y v u _ I2 r1 r2 q2) fun d s3 ⟨z, H3, I3, r3, k, e, q3⟩ => ?_)) hm
  subst e
  cases r3
  refine wpAny_truthy_bool ?_
  cases k with
  | false =>
    obtain ⟨k', e', q'⟩ := q3
    cases e'
    exact PyProof.Rows.ite_ff ⟨H3, I3, q'⟩
  | true =>
    refine PyProof.Rows.ite_tt (PyProof.Rows.test_link (thn (hc.run pins s3 σ H3 _ I3 q3) fun w' s4 ⟨z', H4, I4, r4, q4⟩ => thn (ho' pins s4 σ H4 y z' u w' _ I4 r2 r4 q4) fun d s5 ⟨z5, H5, I5, r5, k5, e5, q5⟩ => ?_))
    subst e5
    cases r5
    refine wpAny_truthy_bool ?_
    cases k5 with
    | false =>
      obtain ⟨k', e', q'⟩ := q5
      cases e'
      exact PyProof.Rows.ite_ff ⟨H5, I5, q'⟩
    | true =>
      refine PyProof.Rows.ite_tt (PyProof.Rows.test_last (thn (hd.run pins s5 σ H5 _ I5 q5) fun w6 s6 ⟨z6, H6, I6, r6, q6⟩ => thn (ho'' pins s6 σ H6 z' z6 w' w6 _ I6 r4 r6 q6) fun d' s7 ⟨z2, H7, I7, r7, k2, e2, q7⟩ => ?_))
      subst e2
      cases r7
      exact wpAny_truthy_bool ⟨H7, I7, q7⟩
abbrev gChain3 (f1 f2 f3 : P → P → Option Bool) (ga gb gc gd : Env → Bx → R P) : Env → Bx → R P := fun e b => (ga e b).bind fun d b1 => (gb e b1).bind fun d' b2 => match f1 d d' with
    | some true => (gc e b2).bind fun d'' b3 => match f2 d' d'' with
      | some true => (gd e b3).bind fun d3 b4 => R.ofO ((f3 d'' d3).map .bool) b4
      | some false => .ok (.bool false) b3
      | none => .no
    | some false => .ok (.bool false) b2
    | none => .no
theorem chain3_2 {f1 f2 f3 : P → P → Option Bool} {ga gb gc gd : Env → Bx → R P} (σ : L2.St) (H : Hp) (Q : VK) (h : lift bo H0 cs W (lF bo) (gChain3 f1 f2 f3 ga gb gc gd) σ H Q) :
    tChain3 (rB bo f1) (rB bo f2) (rB bo f3) (lift bo H0 cs W (lM bo .r) ga) (lift bo H0 cs W (lM bo .r) gb) (lift bo H0 cs W (lM bo .r) gc) (lift bo H0 cs W (lM bo .r) gd) σ H Q := by
  obtain ⟨e, b, F, p, h⟩ := h
  refine ⟨e, b, F, p, fin_bind hRFf p h fun d b1 v F1 H1 p1 x1 r1 h1 => ⟨e, b1, F1, p1, fin_bind hRFf p1 h1 fun d' b2 v' F2 H2 p2 x2 r2 h2 => ?_⟩⟩
  try dsimp only at h2
  split at h2
  · rename_i q
    refine ⟨F2, b2, d, d', true, p2.sub, p2.box, RpR.mono x2 r1, r2, q, true, rfl, ?_⟩
    rw [if_pos rfl]
    refine ⟨e, b2, F2, p2, fin_bind hRFf p2 h2 fun d'' b3 v'' F3 H3 p3 x3 r3 h3 => ?_⟩
    try dsimp only at h3
    split at h3
    · rename_i q3
      refine ⟨F3, b3, d', d'', true, p3.sub, p3.box, RpR.mono x3 r2, r3, q3, true, rfl, ?_⟩
      rw [if_pos rfl]
      refine ⟨e, b3, F3, p3, fin_bind hRFf p3 h3 fun d3 b4 v3 F4 H4 p4 x4 r4 h4 => ?_⟩
      cases q' : f3 d'' d3 with
      | none =>
        rw [q'] at h4
        exact h4.elim
      | some z =>
        rw [q'] at h4
        exact ⟨F4, b4, d'', d3, z, p4.sub, p4.box, RpR.mono x4 r3, r4, q', h4 _ F4 H4 (Ext.refl p4.sub) p4.box (Flt.bl z).fr⟩
    · rename_i q3
      refine ⟨F3, b3, d', d'', false, p3.sub, p3.box, RpR.mono x3 r2, r3, q3, false, rfl, ?_⟩
      rw [if_neg (by decide)]
      exact h3 _ F3 H3 (Ext.refl p3.sub) p3.box (Flt.bl false).fr
    · exact h3.elim
  · rename_i q
    refine ⟨F2, b2, d, d', false, p2.sub, p2.box, RpR.mono x2 r1, r2, q, false, rfl, ?_⟩
    rw [if_neg (by decide)]
    exact h2 _ F2 H2 (Ext.refl p2.sub) p2.box (Flt.bl false).fr
  · exact h2.elim
theorem chain3_T {f1 f2 f3 : P → P → Option Bool} {ga gb gc gd : Env → Bx → R P} (σ : L2.St) (H : Hp) (Q : Bool → Hp → Prop) (h : liftT bo H0 cs W (gT (gChain3 f1 f2 f3 ga gb gc gd)) σ H Q) :
    tTest (tChain3 (rB bo f1) (rB bo f2) (rB bo f3) (lift bo H0 cs W (lM bo .r) ga) (lift bo H0 cs W (lM bo .r) gb) (lift bo H0 cs W (lM bo .r) gc) (lift bo H0 cs W (lM bo .r) gd)) σ H Q := by
  obtain ⟨e, b, F, p, h⟩ := h
  dsimp only [gT, gChain3] at h
  rw [bind_assoc] at h
  refine ⟨e, b, F, p, finT_bind p h fun d b1 v F1 H1 p1 x1 r1 h1 => ⟨e, b1, F1, p1, ?_⟩⟩
  rw [bind_assoc] at h1
  refine finT_bind p1 h1 fun d' b2 v' F2 H2 p2 x2 r2 h2 => ?_
  try dsimp only at h2
  split at h2
  · rename_i q
    refine ⟨F2, b2, d, d', true, p2.sub, p2.box, RpR.mono x2 r1, r2, q, true, rfl, ?_⟩
    rw [if_pos rfl]
    rw [bind_assoc] at h2
    refine ⟨e, b2, F2, p2, finT_bind p2 h2 fun d'' b3 v'' F3 H3 p3 x3 r3 h3 => ?_⟩
    try dsimp only at h3
    split at h3
    · rename_i q3
      refine ⟨F3, b3, d', d'', true, p3.sub, p3.box, RpR.mono x3 r2, r3, q3, true, rfl, ?_⟩
      rw [if_pos rfl]
      rw [bind_assoc] at h3
      refine ⟨e, b3, F3, p3, finT_bind p3 h3 fun d3 b4 v3 F4 H4 p4 x4 r4 h4 => ?_⟩
      cases q' : f3 d'' d3 with
      | none =>
        rw [q'] at h4
        exact h4.elim
      | some z =>
        rw [q'] at h4
        exact ⟨F4, b4, d'', d3, z, p4.sub, p4.box, RpR.mono x4 r3, r4, q', z, rfl, h4 F4 H4 (Ext.refl p4.sub) p4.box⟩
    · rename_i q3
      refine ⟨F3, b3, d', d'', false, p3.sub, p3.box, RpR.mono x3 r2, r3, q3, false, rfl, ?_⟩
      rw [if_neg (by decide)]
      exact ⟨false, rfl, h3 F3 H3 (Ext.refl p3.sub) p3.box⟩
    · exact h3.elim
  · rename_i q
    refine ⟨F2, b2, d, d', false, p2.sub, p2.box, RpR.mono x2 r1, r2, q, false, rfl, ?_⟩
    rw [if_neg (by decide)]
    exact ⟨false, rfl, h2 F2 H2 (Ext.refl p2.sub) p2.box⟩
  · exact h2.elim
theorem snd_chain3 {ov o1 o2 o3 o4 f1 f2 f3 f4 fr : Bool} {op op' op'' : CmpOp} {f f' f'' : P → P → Option Bool} {a b c d : Expr} {pos : Pos} {ga gb gc gd : Env → Bx → R P} (ho : OpR X (compareOp op) (rB bo f)) (ho' : OpR X (compareOp op') (rB bo f')) (ho'' : OpR X (compareOp op'') (rB bo f''))
    (ha : Snd X bo H0 cs W o1 f1 a ga) (hb : Snd X bo H0 cs W o2 f2 b gb) (hc : Snd X bo H0 cs W o3 f3 c gc) (hd : Snd X bo H0 cs W o4 f4 d gd) (hm : notSet d = true) : Snd X bo H0 cs W ov fr (.Compare a [op, op', op''] [b, c, d] pos) (gChain3 f f' f'' ga gb gc gd) :=
  have hl : lastMarks [op, op', op''] [b, c, d] = false := notSet_marks hm
  have f := PE.imp (pe_chain3 ho ho' ho'' ha.r hb.r hc.r hd.r hl) chain3_2
  have n := PE.imp f lift_n_f
  ⟨PE.imp n lift_r_n, fun _ => n, fun _ => f, PT.imp (pt_chain3 ho ho' ho'' ha.r hb.r hc.r hd.r hl) chain3_T⟩

/-! not, and, or, if .. else -/
theorem snd_neg {ov o1 f1 fr : Bool} {a : Expr} {pos : Pos} {ga : Env → Bx → R P} (ha : Snd X bo H0 cs W o1 f1 a ga) : Snd X bo H0 cs W ov fr (.UnaryOp .USub a pos) fun e b => (ga e b).bind fun d b1 => match d with
    | .int i => .ok (.int (-i)) b1
    | _ => .no :=
  Snd.of_f (PE.imp (pe_un un_neg ha.r) fun σ H Q ⟨e, b, F, p, h⟩ => ⟨e, b, F, p, fin_bind hRFf p h fun d b1 v F1 H1 p1 x1 r1 h1 => by
    try dsimp only at h1
    split at h1
    · rename_i i
      exact ⟨i, RpR.int (bo := bo) (H := H1) r1, h1 _ F1 H1 (Ext.refl p1.sub) p1.box (Flt.int _).fr⟩
    · exact h1.elim⟩) rfl
theorem snd_not {ov o1 f1 fr : Bool} {a : Expr} {pos : Pos} {ga : Env → Bx → R P} (ha : Snd X bo H0 cs W o1 f1 a ga) : Snd X bo H0 cs W ov fr (.UnaryOp .Not a pos) fun e b => (ga e b).bind fun d b1 => R.ofO ((truD d).map fun t => .bool (!t)) b1 :=
  have f : PE X (.UnaryOp .Not a pos) (lift bo H0 cs W (lF bo) fun e b => (ga e b).bind fun d b1 => R.ofO ((truD d).map fun t => .bool (!t)) b1) := PE.imp (pe_notT ha.r) fun σ H Q ⟨e, b, F, p, h⟩ => ⟨e, b, F, p, fin_bind hRFf p h fun d b1 v F1 H1 p1 x1 r1 h1 => by
    cases q : truD d with
    | none =>
      rw [q] at h1
      exact h1.elim
    | some t =>
      rw [q] at h1
      exact ⟨t, truV_of p1.sub r1 q, h1 _ F1 H1 (Ext.refl p1.sub) p1.box (Flt.bl _).fr⟩⟩
  have n := PE.imp f lift_n_f
  ⟨PE.imp n lift_r_n, fun _ => n, fun _ => f, PT.imp (pt_not ha.t) fun σ H Q ⟨e, b, F, p, h⟩ => ⟨e, b, F, p, by
    dsimp only [gT] at h ⊢
    rw [bind_assoc] at h
    cases q : ga e b with
    | ok d b1 =>
      rw [q] at h
      show finT bo cs W σ F H (R.ofO (truD d) b1) _
      have h : finT bo cs W σ F H ((R.ofO ((truD d).map fun t => PyData.bool (!t)) b1).bind fun d b1 => R.ofO (truD d) b1) Q := h
      cases q' : truD d with
      | none =>
        rw [q'] at h
        exact h.elim
      | some t =>
        rw [q'] at h
        exact h
    | ex c d b1 =>
      rw [q] at h
      exact h
    | no =>
      rw [q] at h
      exact h.elim⟩⟩
abbrev gAnd (ga gb : Env → Bx → R P) : Env → Bx → R P := fun e b => (ga e b).bind fun d b1 => match truD d with
    | some true => gb e b1
    | some false => .ok d b1
    | none => .no
abbrev gOr (ga gb : Env → Bx → R P) : Env → Bx → R P := fun e b => (ga e b).bind fun d b1 => match truD d with
    | some false => gb e b1
    | some true => .ok d b1
    | none => .no
/-- what is shown of values and tests under one BoolOp -/
structure SndB (X : Cx) (bo : Option Addr) (H0 : Hp) (cs : Cls') (W : WX) (op : BoolOp) (es : List Expr) (pos : Pos) (g : Env → Bx → R P) : Prop where
  n : PE X (.BoolOp op es pos) (lift bo H0 cs W (lM bo .n) g)
  t : PW X (.BoolOp op es pos) (liftT bo H0 cs W (gT g))
theorem SndB.snd {ov : Bool} {op : BoolOp} {es : List Expr} {pos : Pos} {g : Env → Bx → R P} (h : SndB X bo H0 cs W op es pos g) : Snd X bo H0 cs W ov false (.BoolOp op es pos) g :=
  ⟨PE.imp h.n lift_r_n, fun _ => h.n, (fun z => nomatch z), h.t.pt⟩
theorem sndB_and1 {f1 : Bool} {a : Expr} {pos : Pos} {ga : Env → Bx → R P} (ha : Snd X bo H0 cs W false f1 a ga) : SndB X bo H0 cs W .And [a] pos ga := ⟨pe_one (ha.n rfl), pw_and1 ha.t⟩
theorem sndB_or1 {f1 : Bool} {a : Expr} {pos : Pos} {ga : Env → Bx → R P} (ha : Snd X bo H0 cs W false f1 a ga) : SndB X bo H0 cs W .Or [a] pos ga := ⟨pe_one (ha.n rfl), pw_or1 ha.t⟩
theorem sndB_and {f1 : Bool} {a b : Expr} {rest : List Expr} {pos : Pos} {ga gb : Env → Bx → R P} (ha : Snd X bo H0 cs W false f1 a ga) (hb : SndB X bo H0 cs W .And (b :: rest) pos gb) : SndB X bo H0 cs W .And (a :: b :: rest) pos (gAnd ga gb) := by
  refine ⟨PE.imp (pe_andT (ha.n rfl) hb.n) fun σ H Q ⟨e, b, F, p, h⟩ => ⟨e, b, F, p, fin_bind hRMm p h fun d b1 v F1 H1 p1 x1 r1 h1 => ?_⟩, PW.imp (pw_and ha.t hb.t) fun σ H Q ⟨e, b, F, p, h⟩ => ⟨e, b, F, p, ?_⟩⟩
  · try dsimp only at h1
    split at h1
    · rename_i q
      refine ⟨true, truV_of p1.sub (Rp.r p1.sub p1.box r1) q, ?_⟩
      rw [if_pos rfl]
      exact ⟨e, b1, F1, p1, h1⟩
    · rename_i q
      refine ⟨false, truV_of p1.sub (Rp.r p1.sub p1.box r1) q, ?_⟩
      rw [if_neg (by decide)]
      exact h1 _ F1 H1 (Ext.refl p1.sub) p1.box r1
    · exact h1.elim
  · dsimp only [gT, gAnd] at h ⊢
    rw [bind_assoc] at h
    cases q : ga e b with
    | ok d b1 =>
      rw [q] at h
      simp only [R.bind] at h ⊢
      cases q' : truD d with
      | none =>
        rw [q'] at h
        exact h.elim
      | some t =>
        rw [q'] at h
        cases t with
        | true =>
          show ∀ F' H', Ext bo F H F' H' → BoxRep bo F' H' b1 → _
          intro F' H' x z
          rw [if_pos rfl]
          exact ⟨e, b1, F', p.step x z, finT_step x h⟩
        | false =>
          show ∀ F' H', Ext bo F H F' H' → BoxRep bo F' H' b1 → _
          intro F' H' x z
          rw [if_neg (by decide)]
          simp only [q', R.ofO] at h
          exact h F' H' x z
    | ex c d b1 =>
      rw [q] at h
      exact h
    | no =>
      rw [q] at h
      exact h.elim
theorem sndB_or {f1 : Bool} {a b : Expr} {rest : List Expr} {pos : Pos} {ga gb : Env → Bx → R P} (ha : Snd X bo H0 cs W false f1 a ga) (hb : SndB X bo H0 cs W .Or (b :: rest) pos gb) : SndB X bo H0 cs W .Or (a :: b :: rest) pos (gOr ga gb) := by
  refine ⟨PE.imp (pe_orT (ha.n rfl) hb.n) fun σ H Q ⟨e, b, F, p, h⟩ => ⟨e, b, F, p, fin_bind hRMm p h fun d b1 v F1 H1 p1 x1 r1 h1 => ?_⟩, PW.imp (pw_or ha.t hb.t) fun σ H Q ⟨e, b, F, p, h⟩ => ⟨e, b, F, p, ?_⟩⟩
  · try dsimp only at h1
    split at h1
    · rename_i q
      refine ⟨false, truV_of p1.sub (Rp.r p1.sub p1.box r1) q, ?_⟩
      rw [if_neg (by decide)]
      exact ⟨e, b1, F1, p1, h1⟩
    · rename_i q
      refine ⟨true, truV_of p1.sub (Rp.r p1.sub p1.box r1) q, ?_⟩
      rw [if_pos rfl]
      exact h1 _ F1 H1 (Ext.refl p1.sub) p1.box r1
    · exact h1.elim
  · dsimp only [gT, gOr] at h ⊢
    rw [bind_assoc] at h
    cases q : ga e b with
    | ok d b1 =>
      rw [q] at h
      simp only [R.bind] at h ⊢
      cases q' : truD d with
      | none =>
        rw [q'] at h
        exact h.elim
      | some t =>
        rw [q'] at h
        cases t with
        | false =>
          show ∀ F' H', Ext bo F H F' H' → BoxRep bo F' H' b1 → _
          intro F' H' x z
          rw [if_neg (by decide)]
          exact ⟨e, b1, F', p.step x z, finT_step x h⟩
        | true =>
          show ∀ F' H', Ext bo F H F' H' → BoxRep bo F' H' b1 → _
          intro F' H' x z
          rw [if_pos rfl]
          simp only [q', R.ofO] at h
          exact h F' H' x z
    | ex c d b1 =>
      rw [q] at h
      exact h
    | no =>
      rw [q] at h
      exact h.elim
theorem pt_ifExp {c a b : Expr} {pos : Pos} {tc ta tb : TT} (hc : PT X c tc) (ha : PT X a ta) (hb : PT X b tb) : PT X (.IfExp c a b pos) (fun σ H Q => tc σ H fun t H1 => if t = true then ta σ H1 Q else tb σ H1 Q) := by
  refine ⟨fun pins s σ H Q I h => ?_⟩
  refine PyProof.Rows.isTrue_IfExp (thn (hc.run pins s σ H _ I h) fun d s1 ⟨H1, I1, q1⟩ => ?_)
  cases d with
  | true => exact ha.run pins s1 σ H1 Q I1 q1
  | false => exact hb.run pins s1 σ H1 Q I1 q1
abbrev gIte (gc ga gb : Env → Bx → R P) : Env → Bx → R P := fun e b => (gc e b).bind fun d b1 => match truD d with
    | some true => ga e b1
    | some false => gb e b1
    | none => .no
theorem ite_step {gc : Env → Bx → R P} {e : Env} {b : Bx} {F H : Hp} {σ : L2.St} {k : Bool → Bx → R P} {Rl : Hp → Hp → Hp → V → P → Prop} {Q : VK} {Q1 : Bool → Hp → Prop} (hR : ∀ H H1 F' H' v d, Rl H1 F' H' v d → (∀ a, H1 a = none → H a = none) → Rl H F' H' v d) (p : Pre bo H0 σ H e b F)
    (h : fin bo cs W Rl σ F H ((gc e b).bind fun d b1 => match truD d with | some t => k t b1 | none => .no) Q) (hk : ∀ t b1 F1 H1, Pre bo H0 σ H1 e b1 F1 → fin bo cs W Rl σ F1 H1 (k t b1) Q → Q1 t H1) : finT bo cs W σ F H (gT gc e b) Q1 := by
  dsimp only [gT]
  cases q : gc e b with
  | ok d b1 =>
    rw [q] at h
    simp only [R.bind] at h ⊢
    cases q' : truD d with
    | none =>
      rw [q'] at h
      exact h.elim
    | some t =>
      rw [q'] at h
      intro F1 H1 x z
      exact hk t b1 F1 H1 (p.step x z) (fin_step (fun F' H' v d => hR H H1 F' H' v d) z x h)
  | ex c d b1 =>
    rw [q] at h
    exact h
  | no =>
    rw [q] at h
    exact h.elim
theorem gIte_eq {gc ga gb : Env → Bx → R P} {e : Env} {b : Bx} : gIte gc ga gb e b = (gc e b).bind fun d b1 => match truD d with | some t => (fun (t : Bool) b1 => if t = true then ga e b1 else gb e b1) t b1 | none => .no := by
  dsimp only [gIte]
  congr 1
  funext d b1
  cases truD d with
  | none => rfl
  | some t => cases t <;> rfl
theorem ite_fin {gc ga gb : Env → Bx → R P} {Rl : Hp → Hp → Hp → V → P → Prop} (hR : ∀ H H1 F' H' v d, Rl H1 F' H' v d → (∀ a, H1 a = none → H a = none) → Rl H F' H' v d) (σ : L2.St) (H : Hp) (Q : VK) (h : lift bo H0 cs W Rl (gIte gc ga gb) σ H Q) :
    tIf (liftT bo H0 cs W (gT gc)) (lift bo H0 cs W Rl ga) (lift bo H0 cs W Rl gb) σ H Q := by
  obtain ⟨e, b, F, p, h⟩ := h
  rw [gIte_eq] at h
  refine ⟨e, b, F, p, ite_step hR p h fun t b1 F1 H1 p1 h1 => ?_⟩
  cases t with
  | true =>
    rw [if_pos rfl]
    exact ⟨e, b1, F1, p1, h1⟩
  | false =>
    rw [if_neg (by decide)]
    exact ⟨e, b1, F1, p1, h1⟩
theorem snd_ite {ov o1 f1 f2 f3 : Bool} {c a b : Expr} {pos : Pos} {gc ga gb : Env → Bx → R P} (hc : Snd X bo H0 cs W o1 f1 c gc) (ha : Snd X bo H0 cs W false f2 a ga) (hb : Snd X bo H0 cs W false f3 b gb) :
    Snd X bo H0 cs W ov (f2 && f3) (.IfExp c a b pos) (gIte gc ga gb) := by
  have n := PE.imp (pe_ifExp (pos := pos) hc.t (ha.n rfl) (hb.n rfl)) (ite_fin hRMm)
  refine ⟨PE.imp n lift_r_n, fun _ => n, fun z => ?_, PT.imp (pt_ifExp hc.t ha.t hb.t) fun σ H Q ⟨e, b, F, p, h⟩ => ?_⟩
  · rw [Bool.and_eq_true] at z
    exact PE.imp (pe_ifExp (pos := pos) hc.t (ha.f z.1) (hb.f z.2)) (ite_fin hRFf)
  · refine ⟨e, b, F, p, ?_⟩
    dsimp only [gT, gIte] at h ⊢
    rw [bind_assoc] at h
    cases q : gc e b with
    | ok d b1 =>
      rw [q] at h
      simp only [R.bind] at h ⊢
      cases q' : truD d with
      | none =>
        rw [q'] at h
        exact h.elim
      | some t =>
        rw [q'] at h
        intro F' H' x z
        cases t with
        | true =>
          rw [if_pos rfl]
          exact ⟨e, b1, F', p.step x z, finT_step x h⟩
        | false =>
          rw [if_neg (by decide)]
          exact ⟨e, b1, F', p.step x z, finT_step x h⟩
    | ex c d b1 =>
      rw [q] at h
      exact h
    | no =>
      rw [q] at h
      exact h.elim
end
end Dv
/-! text D4 -/
set_option Elab.async false
set_option linter.all false
set_option maxRecDepth 100000
set_option maxHeartbeats 4000000
namespace Dv
open PySem PySem.Spec L2
section
variable {X : Cx} {bo : Option Addr} {H0 : Hp} {cs : Cls'} {W : WX}

/-! ### argument lists, displays -/
theorem Snd.m {ov fr : Bool} {e : Expr} {g : Env → Bx → R P} (h : Snd X bo H0 cs W ov fr e g) (m : Mo) (hm : m = .n → ov = false) : PE X e (lift bo H0 cs W (lM bo m) g) := by
  cases m with
  | n => exact h.n (hm rfl)
  | r => exact h.r
theorem spa_nil {m : Mo} : PA X [] (liftA bo H0 cs W m fun _ b => .ok (.list []) b) := PA.imp pa_nil fun σ H Q ⟨e, b, F, p, h⟩ => h [] F H (Ext.refl p.sub) p.box .nil
theorem spa_cons {m : Mo} {ov fr : Bool} {e : Expr} {es : List Expr} {ga gs : Env → Bx → R P} (ha : Snd X bo H0 cs W ov fr e ga) (hm : m = .n → ov = false) (hs : PA X es (liftA bo H0 cs W m gs)) (hst : notStar e = true) :
    PA X (e :: es) (liftA bo H0 cs W m fun e b => (ga e b).bind fun d b1 => (gs e b1).bind fun ds b2 => .ok (.list (d :: argsOf ds)) b2) :=
  PA.imp (pa_cons (ha.m m hm) hs (starEach_of hst)) fun σ H Q ⟨e, b, F, p, h⟩ => ⟨e, b, F, p, finA_bind p h fun d b1 v F1 H1 p1 x1 r1 h1 => ⟨e, b1, F1, p1, finA_bindA p1 h1 fun ds b2 vs F2 H2 p2 x2 r2 h2 =>
    h2 (v :: vs) F2 H2 (Ext.refl p2.sub) p2.box (.cons (RpM.mono x2 r1) r2)⟩⟩
theorem spa_star {ov fr : Bool} {e : Expr} {es : List Expr} {p : Pos} {ga gs : Env → Bx → R P} (ha : Snd X bo H0 cs W ov fr e ga) (hs : PA X es (liftA bo H0 cs W .n gs)) :
    PA X (.Starred e p :: es) (liftA bo H0 cs W .n fun e b => (ga e b).bind fun d b1 => match d with
      | .list ys => (gs e b1).bind fun ds b2 => .ok (.list (ys ++ argsOf ds)) b2
      | .tuple ys => (gs e b1).bind fun ds b2 => .ok (.list (ys ++ argsOf ds)) b2
      | _ => .no) :=
  PA.imp (StX.pa_star ha.r hs (by rfl)) fun σ H Q ⟨e, b, F, p, h⟩ => ⟨e, b, F, p, finA_bind p h fun d b1 v F1 H1 p1 x1 r1 h1 => by
    cases d with
    | list ys =>
      obtain ⟨a, ws, rfl, n, ha, ra⟩ := r1
      exact ⟨a, ws, rfl, .inr (SqL.of ha), e, b1, F1, p1, finA_bindA p1 h1 fun ds b2 vs F2 H2 p2 x2 r2 h2 =>
        h2 (ws ++ vs) F2 H2 (Ext.refl p2.sub) p2.box (((ra.mono x2.sf).append (Paired.rpA r2)).paired)⟩
    | tuple ys =>
      obtain ⟨a, ws, rfl, ha, ra⟩ := RpR.tup (bo := bo) (H := H1) r1
      exact ⟨a, ws, rfl, .inl (SqT.of (p1.sub _ _ ha)), e, b1, F1, p1, finA_bindA p1 h1 fun ds b2 vs F2 H2 p2 x2 r2 h2 =>
        h2 (ws ++ vs) F2 H2 (Ext.refl p2.sub) p2.box (((ra.mono x2.sf).append (Paired.rpA r2)).paired)⟩
    | _ => exact h1.elim⟩
theorem snd_tup {ov fr : Bool} {es : List Expr} {k : Nat} {pos : Pos} {gs : Env → Bx → R P} (hs : PA X es (liftA bo H0 cs W .n gs)) :
    Snd X bo H0 cs W ov fr (.Tuple es k pos) fun e b => (gs e b).bind fun ds b1 => if (argsOf ds).length ≤ line then .ok (.tuple (argsOf ds)) b1 else .no :=
  Snd.of_f (PE.imp (pe_tup hs) fun σ H Q ⟨e, b, F, p, h⟩ => ⟨e, b, F, p, fin_bindA hRFf p h fun ds b1 vs F1 H1 p1 x1 r1 h1 => by
    split at h1
    · rename_i hl
      have r := Paired.rpA r1
      refine ⟨by rw [r.length, ← line_eq]; exact hl, fun q hq => ?_⟩
      obtain ⟨F', m1, m2⟩ := made_tup p1.sub hq r
      exact h1 _ _ _ m1.of_none (m1.box p1.box) m2
    · exact h1.elim⟩) rfl
theorem snd_lst {ov fr : Bool} {es : List Expr} {pos : Pos} {gs : Env → Bx → R P} (hs : PA X es (liftA bo H0 cs W .n gs)) :
    Snd X bo H0 cs W ov fr (.List es pos) fun e b => (gs e b).bind fun ds b1 => if (argsOf ds).length ≤ line then .ok (.list (argsOf ds)) b1 else .no :=
  Snd.of_f (PE.imp (pe_lst hs) fun σ H Q ⟨e, b, F, p, h⟩ => ⟨e, b, F, p, fin_bindA hRFf p h fun ds b1 vs F1 H1 p1 x1 r1 h1 => by
    split at h1
    · rename_i hl
      have r := Paired.rpA r1
      refine ⟨by rw [r.length, ← line_eq]; exact hl, fun q hq => ?_⟩
      obtain ⟨m1, m2⟩ := made_lst p1.sub p1.box hq r
      exact h1 _ _ _ m1.of_none (m1.box p1.box) m2
    · exact h1.elim⟩) rfl

/-! ### items, slices -/
def notSlice : Expr → Bool
  | .Slice _ _ _ _ => false
  | _ => true
theorem plainIx_of {e : Expr} (h : notSlice e = true) : PlainIx e := fun o i => by
  cases e <;> first
    | rfl
    | cases h
theorem snd_idx {ov o1 o2 f1 f2 : Bool} {a i : Expr} {pos : Pos} {ga gb : Env → Bx → R P} (hu : X.A.units + 1 < cLine) (ha : Snd X bo H0 cs W o1 f1 a ga) (hb : Snd X bo H0 cs W o2 f2 i gb) (hs : notSlice i = true) :
    Snd X bo H0 cs W ov false (.Subscript a i pos) fun e b => (ga e b).bind fun d b1 => (gb e b1).bind fun d' b2 => R.ofO (idxD d d') b2 :=
  Snd.of_n (PE.imp (pe_ix (ix_D hu) ha.r hb.r (plainIx_of hs)) (op2 hRMm)) rfl
/-- a slice's part -/
def liftO (bo : Option Addr) (H0 : Hp) (cs : Cls') (W : WX) (ie : IE) (g : Env → Bx → R P) : TO := fun σ H Q => ∃ e b F, Pre bo H0 σ H e b F ∧ match g e b with
  | .ok d b' => ∀ o F' H', Ext bo F H F' H' → BoxRep bo F' H' b' → (∀ o', partE ie d = some o' → o = o') → partE ie d ≠ none → Q o H'
  | .ex c d b' => ∀ dd F' H', Ext bo F H F' H' → BoxRep bo F' H' b' → ExcRep cs F' H' dd c d → W (.ref (cs.ad c)) dd σ H'
  | .no => False
theorem spo_none : PO X none (fun σ H Q => Q none H) := po_none
theorem snd_slc {ov o1 f1 : Bool} {a : Expr} {lo hi : Option Expr} {l h : IE} {pos p2 : Pos} {ga gl gh : Env → Bx → R P} (ha : Snd X bo H0 cs W o1 f1 a ga)
    (hl : (lo = none ∧ l = .nil ∧ gl = fun _ b => .ok (.list []) b) ∨ ∃ le, lo = some le ∧ (∃ o2 f2, Snd X bo H0 cs W o2 f2 le gl) ∧ l ≠ .nil)
    (hh : (hi = none ∧ h = .nil ∧ gh = fun _ b => .ok (.list []) b) ∨ ∃ le, hi = some le ∧ (∃ o2 f2, Snd X bo H0 cs W o2 f2 le gh) ∧ h ≠ .nil) :
    Snd X bo H0 cs W ov true (.Subscript a (.Slice lo hi none p2) pos) fun e b => (ga e b).bind fun d b1 => (gl e b1).bind fun l' b2 => match partE l l' with
      | none => .no
      | some l'' => (gh e b2).bind fun h' b3 => match partE h h' with
        | none => .no
        | some h'' => R.ofO (slcD d l'' h'') b3 := by
  have part : ∀ {le : Expr} {ie : IE} {g : Env → Bx → R P}, ie ≠ .nil → (∃ o2 f2, Snd X bo H0 cs W o2 f2 le g) → PO X (some le) (tPart (lift bo H0 cs W (lM bo .r) g)) := fun _ ⟨_, _, h⟩ => po_some h.r
  -- the end: what the cut itself asks
  have last : ∀ {σ : L2.St} {e : Env} {b3 : Bx} {F3 H3 : Hp} {Q : VK} {d : P} {x : V} {ol oh : Option Int}, Pre bo H0 σ H3 e b3 F3 → RpR bo F3 H3 x d → fin bo cs W (lF bo) σ F3 H3 (R.ofO (slcD d ol oh) b3) Q → rSlD bo x ol oh H3 Q := fun {σ e b3 F3 H3 Q d x ol oh} p3 r h3 => by
    unfold slcD at h3
    split at h3
    · exact ⟨F3, b3, _, _, p3.sub, p3.box, r, rfl, fun w F' H' x r => h3 w F' H' x.of_none (x.box p3.box) r⟩
    · exact ⟨F3, b3, _, _, p3.sub, p3.box, r, rfl, fun w F' H' x r => h3 w F' H' x.of_none (x.box p3.box) r⟩
    · exact h3.elim
  have pint : ∀ {ie : IE} {d : P} {o : Option Int}, ie ≠ .nil → partE ie d = some o → ∃ i, d = .int i ∧ o = some i := fun {ie d o} hn he => by
    cases d with
    | int i =>
      cases ie <;> first
        | exact absurd rfl hn
        | exact ⟨i, rfl, (Option.some.inj he).symm⟩
    | _ =>
      cases ie <;> first
        | exact absurd rfl hn
        | cases he
  have nxt : ∀ {σ : L2.St} {e : Env} {b2 : Bx} {F2 H2 : Hp} {Q : VK} {d : P} {x : V} {ol : Option Int} {hi : Option Expr} {ie : IE} {g : Env → Bx → R P}, ie ≠ .nil → Pre bo H0 σ H2 e b2 F2 → RpR bo F2 H2 x d →
      fin bo cs W (lF bo) σ F2 H2 ((g e b2).bind fun h' b3 => match partE ie h' with | none => .no | some h'' => R.ofO (slcD d ol h'') b3) Q → tPart (lift bo H0 cs W (lM bo .r) g) σ H2 fun u H3 => rSlD bo x ol u H3 Q := fun {σ e b2 F2 H2 Q d x ol hi ie g} nh p2 r h2 =>
    ⟨e, b2, F2, p2, fin_bind hRFf p2 h2 fun d3 b3 v3 F3 H3 p3 x3 r3 h3 => by
      split at h3
      · exact h3.elim
      · rename_i h'' e2
        obtain ⟨j, rfl, rfl⟩ := pint nh e2
        exact ⟨j, RpR.int (bo := bo) (H := H3) r3, last p3 (RpR.mono x3 r) h3⟩⟩
  rcases hl with ⟨rfl, rfl, rfl⟩ | ⟨le, rfl, sl, nl⟩
  · rcases hh with ⟨rfl, rfl, rfl⟩ | ⟨he, rfl, sh, nh⟩
    · exact Snd.of_f (PE.imp (pe_slice (sl_D (bo := bo)) ha.r po_none po_none) fun σ H Q ⟨e, b, F, p, h⟩ => ⟨e, b, F, p, fin_bind hRFf p h fun d b1 v F1 H1 p1 x1 r1 h1 => last p1 r1 h1⟩) rfl
    · exact Snd.of_f (PE.imp (pe_slice (sl_D (bo := bo)) ha.r po_none (part nh sh)) fun σ H Q ⟨e, b, F, p, h⟩ => ⟨e, b, F, p, fin_bind hRFf p h fun d b1 v F1 H1 p1 x1 r1 h1 => nxt (hi := none) nh p1 r1 h1⟩) rfl
  · rcases hh with ⟨rfl, rfl, rfl⟩ | ⟨he, rfl, sh, nh⟩
    · exact Snd.of_f (PE.imp (pe_slice (sl_D (bo := bo)) ha.r (part nl sl) po_none) fun σ H Q ⟨e, b, F, p, h⟩ => ⟨e, b, F, p, fin_bind hRFf p h fun d b1 v F1 H1 p1 x1 r1 h1 => ⟨e, b1, F1, p1, fin_bind hRFf p1 h1 fun d2 b2 v2 F2 H2 p2 x2 r2 h2 => by
        split at h2
        · exact h2.elim
        · rename_i l'' e1
          obtain ⟨i, rfl, rfl⟩ := pint nl e1
          exact ⟨i, RpR.int (bo := bo) (H := H2) r2, last p2 (RpR.mono x2 r1) h2⟩⟩⟩) rfl
    · exact Snd.of_f (PE.imp (pe_slice (sl_D (bo := bo)) ha.r (part nl sl) (part nh sh)) fun σ H Q ⟨e, b, F, p, h⟩ => ⟨e, b, F, p, fin_bind hRFf p h fun d b1 v F1 H1 p1 x1 r1 h1 => ⟨e, b1, F1, p1, fin_bind hRFf p1 h1 fun d2 b2 v2 F2 H2 p2 x2 r2 h2 => by
        split at h2
        · exact h2.elim
        · rename_i l'' e1
          obtain ⟨i, rfl, rfl⟩ := pint nl e1
          exact ⟨i, RpR.int (bo := bo) (H := H2) r2, nxt (hi := none) nh p2 (RpR.mono x2 r1) h2⟩⟩⟩) rfl
end
end Dv
/-! text D5 -/
set_option Elab.async false
set_option linter.all false
set_option maxRecDepth 100000
set_option maxHeartbeats 4000000
namespace Dv
open PySem PySem.Spec L2

/-! ### stores into slots -/
section
variable {bo : Option Addr} {H0 : Hp} {F H : Hp} {σ : L2.St} {e : Env}
theorem getD_set {α : Type} {l : List (Option α)} {i j : Nat} {x : Option α} : ((l.set i x)[j]?.getD none) = if i = j ∧ j < l.length then x else l[j]?.getD none := by
  by_cases h : i = j
  · subst h
    by_cases hl : i < l.length
    · rw [List.getElem?_set_self hl, if_pos ⟨rfl, hl⟩]
      rfl
    · rw [if_neg (fun z => hl z.2), List.getElem?_eq_none (by rw [List.length_set]; omega), List.getElem?_eq_none (by omega)]
  · rw [List.getElem?_set_ne h, if_neg (fun z => h z.1)]
theorem EnvRep.set_v (p : EnvRep bo H0 F H σ e) {i : Nat} {v : V} {d : P} (r : Rp F v d) : EnvRep bo H0 F H (σ.set i (some v)) (e.set i (.v d)) := by
  have hk : ∀ (j : Nat) (s : Sl), (e.set i (.v d))[j]? = some s → (i = j ∧ s = .v d) ∨ (i ≠ j ∧ e[j]? = some s) := fun j s h => by
    by_cases hij : i = j
    · subst hij
      by_cases hl : i < e.length
      · rw [List.getElem?_set_self hl] at h
        exact .inl ⟨rfl, (Option.some.inj h).symm⟩
      · rw [List.getElem?_eq_none (by rw [List.length_set]; omega)] at h
        cases h
    · rw [List.getElem?_set_ne hij] at h
      exact .inr ⟨hij, h⟩
  refine ⟨by rw [List.length_set, List.length_set]; exact p.len, fun j s h => ?_, fun j k a dj dk hjk h1 h2 h3 => ?_⟩
  · have hl : j < σ.length := by
      have := (List.getElem?_eq_some_iff.mp h).1
      rw [List.length_set, p.len] at this
      exact this
    rw [getD_set]
    rcases hk j s h with ⟨rfl, rfl⟩ | ⟨hij, h⟩
    · rw [if_pos ⟨rfl, hl⟩]
      exact ⟨v, rfl, r⟩
    · rw [if_neg (fun z => hij z.1)]
      exact p.sl j s h
  · rcases hk j _ h1 with ⟨_, q⟩ | ⟨hij, h1⟩
    · cases q
    · rcases hk k _ h2 with ⟨_, q⟩ | ⟨hik, h2⟩
      · cases q
      · rw [List.getElem?_set_ne hij] at h3
        rw [List.getElem?_set_ne hik]
        exact p.ap j k a dj dk hjk h1 h2 h3
theorem EnvRep.set_no (p : EnvRep bo H0 F H σ e) {i : Nat} {x : Option V} : EnvRep bo H0 F H (σ.set i x) (e.set i .no) := by
  have hk : ∀ (j : Nat) (s : Sl), (e.set i .no)[j]? = some s → (i = j ∧ s = .no) ∨ (i ≠ j ∧ e[j]? = some s) := fun j s h => by
    by_cases hij : i = j
    · subst hij
      by_cases hl : i < e.length
      · rw [List.getElem?_set_self hl] at h
        exact .inl ⟨rfl, (Option.some.inj h).symm⟩
      · rw [List.getElem?_eq_none (by rw [List.length_set]; omega)] at h
        cases h
    · rw [List.getElem?_set_ne hij] at h
      exact .inr ⟨hij, h⟩
  refine ⟨by rw [List.length_set, List.length_set]; exact p.len, fun j s h => ?_, fun j k a dj dk hjk h1 h2 h3 => ?_⟩
  · rcases hk j s h with ⟨rfl, rfl⟩ | ⟨hij, h⟩
    · trivial
    · rw [getD_set, if_neg (fun z => hij z.1)]
      exact p.sl j s h
  · rcases hk j _ h1 with ⟨_, q⟩ | ⟨hij, h1⟩
    · cases q
    · rcases hk k _ h2 with ⟨_, q⟩ | ⟨hik, h2⟩
      · cases q
      · rw [List.getElem?_set_ne hij] at h3
        rw [List.getElem?_set_ne hik]
        exact p.ap j k a dj dk hjk h1 h2 h3
theorem EnvRep.wiped (p : EnvRep bo H0 F H σ e) : ∀ vs : List Nat, EnvRep bo H0 F H (L2.wipe σ vs) (wipe e vs)
  | [] => p
  | v :: vs => by
    show EnvRep bo H0 F H ((L2.wipe σ vs).set v none) ((wipe e vs).set v .no)
    exact (EnvRep.wiped p vs).set_no
theorem wipe_at0 {vs : List Nat} (h : 0 ∉ vs) : (L2.wipe σ vs)[0]? = σ[0]? := L2.wipe_out h
theorem Pre.wiped {b : Bx} (p : Pre bo H0 σ H e b F) {vs : List Nat} (h0 : bo ≠ none → 0 ∉ vs) : Pre bo H0 (L2.wipe σ vs) H (wipe e vs) b F :=
  ⟨p.sub, p.env.wiped vs, p.box, fun β hb => by rw [wipe_at0 (h0 (by rw [hb]; exact (fun z => nomatch z)))]; exact p.bs β hb, p.al⟩
theorem Pre.set_v {b : Bx} (p : Pre bo H0 σ H e b F) {i : Nat} {v : V} {d : P} (r : Rp F v d) (h0 : bo ≠ none → i ≠ 0) : Pre bo H0 (σ.set i (some v)) H (e.set i (.v d)) b F :=
  ⟨p.sub, p.env.set_v r, p.box, fun β hb => by rw [List.getElem?_set_ne (h0 (by rw [hb]; exact (fun z => nomatch z)))]; exact p.bs β hb, p.al⟩
end

/-! ### targets -/
def tgIx : Tg → List Nat
  | .nm i => [i]
  | .tp t => tgIx t
  | .nil => []
  | .cons a b => tgIx a ++ tgIx b
section
variable {X : Cx} {bo : Option Addr} {H0 : Hp}
def liftG (bo : Option Addr) (H0 : Hp) (tg : Tg) : TG := fun v σ H Q => ∃ e b F d e', Pre bo H0 σ H e b F ∧ Rp F v d ∧ asgn tg d e = some e' ∧
  ∀ σ', Pre bo H0 σ' H e' b F → σ'.length = σ.length → (∀ i, i ∉ tgIx tg → σ'[i]? = σ[i]?) → Q σ' H
def liftGs (bo : Option Addr) (H0 : Hp) (tg : Tg) : TGs := fun vs σ H Q => ∃ e b F ds e', Pre bo H0 σ H e b F ∧ RpA F vs ds ∧ asgn tg (.list ds) e = some e' ∧
  ∀ σ', Pre bo H0 σ' H e' b F → σ'.length = σ.length → (∀ i, i ∉ tgIx tg → σ'[i]? = σ[i]?) → Q σ' H
theorem PG.imp {tg : Expr} {t u : TG} (h : PG X tg t) (i : ∀ v σ H Q, u v σ H Q → t v σ H Q) : PG X tg u := ⟨fun pins s σ H v w Q I r q => h.run pins s σ H v w Q I r (i v σ H Q q)⟩
theorem PGs.imp {ts : List Expr} {t u : TGs} (h : PGs X ts t) (i : ∀ v σ H Q, u v σ H Q → t v σ H Q) : PGs X ts u := ⟨fun pins s σ H v w Q I r q => h.run pins s σ H v w Q I r (i v σ H Q q)⟩
theorem spg_name {i : Nat} {x : Str} {pos : Pos} (hN : X.N.Nodup) (hi : X.N[i]? = some x) (hx : Loc X.env.scope x) (hf : X.fn x = true ∨ X.env.scope.names.lookup x = some .local) (h0 : bo ≠ none → i ≠ 0) : PG X (.Name x pos) (liftG bo H0 (.nm i)) :=
  PG.imp (pg_name hN hi hx hf) fun v σ H Q ⟨e, b, F, d, e', p, r, he, k⟩ => by
    have he : some (e.set i (.v d)) = some e' := he
    cases he
    exact k _ (p.set_v r h0) (List.length_set ..) fun j hj => List.getElem?_set_ne (fun z => hj (by rw [z]; exact List.mem_singleton.mpr rfl))
theorem spgs_nil : PGs X [] (liftGs bo H0 .nil) := PGs.imp pgs_nil fun vs σ H Q ⟨e, b, F, ds, e', p, r, he, k⟩ => by
  cases ds with
  | nil =>
    cases r
    cases he
    exact ⟨rfl, k σ p rfl fun _ _ => rfl⟩
  | cons d ds => cases he
theorem assignEach_of {e : Expr} {es : List Expr} {env : PySem.Env} (h : notStar e = true) : assignEach (e :: es) env = (false, assign e env) :: assignEach es env := by
  cases e <;> first
    | rfl
    | cases h
theorem spgs_cons {t : Expr} {ts : List Expr} {a b : Tg} (h1 : PG X t (liftG bo H0 a)) (h2 : PGs X ts (liftGs bo H0 b)) (hs : notStar t = true) : PGs X (t :: ts) (liftGs bo H0 (.cons a b)) :=
  PGs.imp (pgs_cons h1 h2 (by rw [assignEach_of hs] <;> rfl)) fun vs σ H Q ⟨e, bx, F, ds, e', p, r, he, k⟩ => by
    cases r with
    | nil => cases he
    | cons r1 r2 =>
      rename_i v vs d ds _
      have he : (match asgn a d e with | some e1 => asgn b (.list ds) e1 | none => none) = some e' := he
      split at he
      · rename_i e1 h1
        refine ⟨v, vs, rfl, e, bx, F, d, e1, p, r1, h1, fun σ1 p1 l1 u1 => ⟨e1, bx, F, ds, e', p1, r2, he, fun σ2 p2 l2 u2 => k σ2 p2 (l2.trans l1) fun i hi => ?_⟩⟩
        have hi : i ∉ tgIx a ++ tgIx b := hi
        rw [List.mem_append, not_or] at hi
        rw [u2 i hi.2, u1 i hi.1]
      · cases he
theorem each_len {env : PySem.Env} : ∀ {es : List Expr}, allPlain es = true → (assignEach es env).length = es.length ∧ (assignEach es env).findIdx? (·.1) = none
  | [], _ => ⟨rfl, rfl⟩
  | e :: es, h => by
    unfold allPlain at h
    rw [List.all_cons, Bool.and_eq_true] at h
    obtain ⟨h1, h2⟩ := each_len (env := env) (es := es) h.2
    rw [assignEach_of h.1]
    refine ⟨by rw [List.length_cons, List.length_cons, h1], ?_⟩
    rw [List.findIdx?_cons]
    simp [h2]
theorem spg_tup {es : List Expr} {k : Nat} {pos : Pos} {t : Tg} (hc : X.calm = true) (h : PGs X es (liftGs bo H0 t)) (hl : ∀ ds e e', asgn t (.list ds) e = some e' → ds.length = es.length) (hp : allPlain es = true) : PG X (.Tuple es k pos) (liftG bo H0 (.tp t)) := by
  obtain ⟨h1, h2⟩ := each_len (env := X.env) hp
  refine ⟨fun pins s σ H v u Q I r ⟨e, b, F, d, e', p, rd, he, kk⟩ => ?_⟩
  cases rd with
  | tup ha ra =>
    rename_i a vs ds _
    have he : asgn t (.list ds) e = some e' := he
    exact (pg_tup hc h h1 h2).run pins s σ H _ u Q I r ⟨a, vs, rfl, SqT.of (p.sub _ _ ha), by rw [ra.length]; exact hl _ _ _ he, e, b, F, ds, e', p, ra, he, kk⟩
  | lst ha ra =>
    rename_i a vs ds _
    have he : asgn t (.list ds) e = some e' := he
    exact (pg_lst hc h h1 h2).run pins s σ H _ u Q I r ⟨a, vs, rfl, SqL.of (p.sub _ _ ha), by rw [ra.length]; exact hl _ _ _ he, e, b, F, ds, e', p, ra, he, kk⟩
  | dct ha ra => cases he
  | non => cases he
  | bl b => cases he
  | int i => cases he
  | str x => cases he
end

/-! ### what is walked -/
/-- J yields the data ds, from F, H on -/
def WalkW (J : It) (bo : Option Addr) (F H : Hp) (ds : List P) : Prop := ∀ (i : Nat) F1 H1, Ext bo F H F1 H1 → (∀ d, ds[i]? = some d → J.go i H1 ∧ ∀ x H2, J.yld i H1 x H2 → ∃ F2, Ext none F1 H1 F2 H2 ∧ Rp F2 x d) ∧ (i = ds.length → J.stop i H1)
def WalkS (J : It) (F : Hp) (ds : List P) : Prop := ∀ (i : Nat) F1 H1, Same F F1 → Same F1 H1 → (∀ d, ds[i]? = some d → J.go i H1 ∧ ∀ x H2, J.yld i H1 x H2 → ∃ F2, Ext none F1 H1 F2 H2 ∧ Rp F2 x d) ∧ (i = ds.length → J.stop i H1)
theorem WalkS.w {J : It} {bo : Option Addr} {F H : Hp} {ds : List P} (h : WalkS J F ds) : WalkW J bo F H ds := fun i F1 H1 x => h i F1 H1 x.sf x.sub
section
variable {X : Cx} {bo : Option Addr} {H0 : Hp} {cs : Cls'} {W : WX}
def liftI (bo : Option Addr) (H0 : Hp) (cs : Cls') (W : WX) (st : Bool) (g : Env → Bx → R P) : TI := fun σ H Rr => ∃ e b F, Pre bo H0 σ H e b F ∧ match g e b with
  | .ok d b' => match itemsD d with
    | some xs => ∀ J F' H', Ext bo F H F' H' → BoxRep bo F' H' b' → (st = true → WalkS J F' xs) → WalkW J bo F' H' xs → Rr J H'
    | none => False
  | .ex c d b' => ∀ dd F' H', Ext bo F H F' H' → BoxRep bo F' H' b' → ExcRep cs F' H' dd c d → W (.ref (cs.ad c)) dd σ H'
  | .no => False
theorem PI.imp {tg e : Expr} {t u : TI} (h : PI X tg e t) (i : ∀ σ H R, u σ H R → t σ H R) : PI X tg e u := ⟨fun pins s σ H R I q => h.run pins s σ H R I (i σ H R q)⟩
theorem atLen {ds : List P} {vs : List V} {F : Hp} {i : Nat} (r : RpA F vs ds) (h : i = ds.length) : vs.length ≤ i := by
  rw [h, r.length]
  exact Nat.le_refl _
/-- a list, a tuple, a text, walked -/
theorem spi_val {tg e : Expr} {g : Env → Bx → R P} {st ov fr : Bool} (h : Snd X bo H0 cs W ov fr e g) (hst : st = true → ov = false) : PI X tg e (liftI bo H0 cs W st g) := by
  refine ⟨fun pins s σ H Rr I ⟨en, b, F, p, hq⟩ => ?_⟩
  cases q : g en b with
  | no =>
    rw [q] at hq
    exact hq.elim
  | ex c d b' =>
    rw [q] at hq
    -- an error ahead of the walk
    exact (pi_list (tg := tg) h.r).run pins s σ H Rr I ⟨en, b, F, p, by rw [q]; exact hq⟩
  | ok d b' =>
    rw [q] at hq
    cases d with
    | list ds =>
      cases st with
      | true =>
        refine (pi_list (tg := tg) (h.n (hst rfl))).run pins s σ H Rr I ⟨en, b, F, p, ?_⟩
        rw [q]
        intro v F1 H1 x z r
        cases (show Rp F1 v (.list ds) from r) with
        | lst ha ra =>
          rename_i a vs
          have wk : WalkS (Itl X.K a) F1 ds := fun i F2 H2 s1 s2 => ⟨fun d hd => by
            obtain ⟨v, h1, h2⟩ := ra.get hd
            refine ⟨⟨vs, v, SqL.of (s2 _ _ (s1 _ _ ha)), h1⟩, fun y H3 hy => ?_⟩
            obtain ⟨rfl, hy⟩ := hy
            have e1 := hy vs (SqL.of (s2 _ _ (s1 _ _ ha)))
            rw [h1] at e1
            cases e1
            exact ⟨F2, Ext.refl s2, h2.mono s1⟩, fun hi => ⟨vs, SqL.of (s2 _ _ (s1 _ _ ha)), atLen ra hi⟩⟩
          exact ⟨a, rfl, ⟨vs, SqL.of (x.sub _ _ ha)⟩, hq _ F1 H1 x z (fun _ => wk) wk.w⟩
      | false =>
        refine (pi_list (tg := tg) h.r).run pins s σ H Rr I ⟨en, b, F, p, ?_⟩
        rw [q]
        intro v F1 H1 x z r
        obtain ⟨a, vs, rfl, n, ha, ra⟩ := r
        have wk : WalkW (Itl X.K a) bo F1 H1 ds := fun i F2 H2 x2 => ⟨fun d hd => by
          obtain ⟨v, h1, h2⟩ := ra.get hd
          refine ⟨⟨vs, v, SqL.of (x2.keep _ _ n ha), h1⟩, fun y H3 hy => ?_⟩
          obtain ⟨rfl, hy⟩ := hy
          have e1 := hy vs (SqL.of (x2.keep _ _ n ha))
          rw [h1] at e1
          cases e1
          exact ⟨F2, Ext.refl x2.sub, h2.mono x2.sf⟩, fun hi => ⟨vs, SqL.of (x2.keep _ _ n ha), atLen ra hi⟩⟩
        exact ⟨a, rfl, ⟨vs, SqL.of ha⟩, hq _ F1 H1 x z (fun z => nomatch z) wk⟩
    | tuple ds =>
      refine (pi_tup (tg := tg) h.r).run pins s σ H Rr I ⟨en, b, F, p, ?_⟩
      rw [q]
      intro v F1 H1 x z r
      obtain ⟨a, vs, rfl, ha, ra⟩ := RpR.tup (bo := bo) (H := H1) r
      have wk : WalkS (Itt X.K a) F1 ds := fun i F2 H2 s1 s2 => ⟨fun d hd => by
        obtain ⟨v, h1, h2⟩ := ra.get hd
        refine ⟨⟨vs, v, SqT.of (s2 _ _ (s1 _ _ ha)), h1⟩, fun y H3 hy => ?_⟩
        obtain ⟨rfl, hy⟩ := hy
        have e1 := hy vs (SqT.of (s2 _ _ (s1 _ _ ha)))
        rw [h1] at e1
        cases e1
        exact ⟨F2, Ext.refl s2, h2.mono s1⟩, fun hi => ⟨vs, SqT.of (s2 _ _ (s1 _ _ ha)), atLen ra hi⟩⟩
      exact ⟨a, rfl, ⟨vs, SqT.of (x.sub _ _ ha)⟩, hq _ F1 H1 x z (fun _ => wk) wk.w⟩
    | str t =>
      refine (pi_str (tg := tg) h.r).run pins s σ H Rr I ⟨en, b, F, p, ?_⟩
      rw [q]
      intro v F1 H1 x z r
      have wk : WalkS (Its t) F1 (signs t) := fun i F2 H2 s1 s2 => ⟨fun d hd => by
        unfold signs at hd
        rw [List.getElem?_map] at hd
        cases e1 : t.cps.toList[i]? with
        | none =>
          rw [e1] at hd
          cases hd
        | some c =>
          rw [e1] at hd
          cases hd
          have e2 : t.cps[i]? = some c := by rw [← Array.getElem?_toList]; exact e1
          refine ⟨(Array.getElem?_eq_some_iff.mp e2).1, fun y H3 hy => ?_⟩
          obtain ⟨rfl, c', e3, rfl⟩ := hy
          rw [e2] at e3
          cases e3
          exact ⟨F2, Ext.refl s2, .str _⟩, fun hi => by
        show t.cps.size ≤ i
        rw [hi]
        unfold signs
        rw [List.length_map, Array.length_toList]
        exact Nat.le_refl _⟩
      exact ⟨t, RpR.str (bo := bo) (H := H1) r, hq _ F1 H1 x z (fun _ => wk) wk.w⟩
    | none => exact hq.elim
    | bool _ => exact hq.elim
    | int _ => exact hq.elim
    | dict _ => exact hq.elim
end
end Dv
/-! text D6 -/
set_option Elab.async false
set_option linter.all false
set_option maxRecDepth 100000
set_option maxHeartbeats 4000000
namespace Dv
open PySem PySem.Spec L2

/-! ### a list comprehension -/
def rem (H : Hp) (D : Addr) : Hp := fun a => if a = D then none else H a
theorem rem_same {H : Hp} {D : Addr} : rem H D D = none := if_pos rfl
theorem rem_ne {H : Hp} {D a : Addr} (h : a ≠ D) : rem H D a = H a := if_neg h
theorem upd_rem {H : Hp} {D : Addr} {o : HO} (h : H D = some o) : upd (rem H D) D o = H := by
  funext a
  by_cases e : a = D
  · rw [e, upd_same, h]
  · rw [upd_ne e, rem_ne e]
theorem rem_upd {H : Hp} {D : Addr} {o : HO} (h : H D = none) : rem (upd H D o) D = H := by
  funext a
  by_cases e : a = D
  · rw [e, rem_same, h]
  · rw [rem_ne e, upd_ne e]
section
variable {bo : Option Addr} {F H F' H' : Hp} {D : Addr}
/-- the cell D taken out on both sides -/
theorem Ext.rem (x : Ext bo F H F' H') (hF : F' D = none) : Ext bo F (rem H D) F' (Dv.rem H' D) := by
  refine ⟨x.sf, fun a o h => ?_, fun a o n h => ?_, fun a o h1 h2 => ?_⟩
  · have e : a ≠ D := fun e => by
      rw [e, hF] at h
      cases h
    rw [rem_ne e]
    exact x.sub _ _ h
  · have e : a ≠ D := fun e => by
      rw [e, rem_same] at h
      cases h
    rw [rem_ne e] at h ⊢
    exact x.keep _ _ n h
  · have e : a ≠ D := fun e => by
      rw [e, hF] at h2
      cases h2
    rw [rem_ne e]
    exact x.new _ _ h1 h2
theorem wipe_get {σ : L2.St} {i : Nat} : ∀ {vs : List Nat}, (L2.wipe σ vs)[i]? = if i ∈ vs ∧ i < σ.length then some none else σ[i]?
  | [] => by rw [if_neg (fun z => by cases z.1)]; rfl
  | v :: vs => by
    show ((L2.wipe σ vs).set v none)[i]? = _
    by_cases e : v = i
    · subst e
      by_cases hl : v < σ.length
      · rw [List.getElem?_set_self (by rw [wipe_length]; exact hl), if_pos ⟨List.mem_cons_self, hl⟩]
      · rw [if_neg (fun z => hl z.2), List.getElem?_eq_none (by rw [List.length_set, wipe_length]; omega), List.getElem?_eq_none (by omega)]
    · rw [List.getElem?_set_ne e, wipe_get (vs := vs)]
      by_cases h : i ∈ vs ∧ i < σ.length
      · rw [if_pos h, if_pos ⟨List.mem_cons_of_mem _ h.1, h.2⟩]
      · rw [if_neg h, if_neg (fun z => h ⟨by
          rcases List.mem_cons.mp z.1 with q | q
          · exact absurd q.symm e
          · exact q, z.2⟩)]
theorem wipe_eq {σ σ' : L2.St} {vs : List Nat} (hl : σ'.length = σ.length) (h : ∀ i, i ∉ vs → σ'[i]? = σ[i]?) : L2.wipe σ' vs = L2.wipe σ vs := by
  apply List.ext_getElem?
  intro i
  rw [wipe_get, wipe_get, hl]
  by_cases q : i ∈ vs
  · by_cases z : i < σ.length
    · rw [if_pos ⟨q, z⟩, if_pos ⟨q, z⟩]
    · rw [if_neg (fun w => z w.2), if_neg (fun w => z w.2), List.getElem?_eq_none (by omega), List.getElem?_eq_none (by omega)]
  · rw [if_neg (fun w => q w.1), if_neg (fun w => q w.1), h i q]
end
section
variable {X : Cx} {bo : Option Addr} {H0 : Hp} {cs : Cls'} {W : WX}
abbrev W0 : WX := fun _ _ _ _ => False
/-- one turn -/
abbrev lcT (own : List Nat) (tg : Tg) (gifs gelt : Env → Bx → R P) (e : Env) : P → Bx → R (List P) := fun x b => R.noex (match asgn tg x (wipe e own) with
  | none => .no
  | some e' => (gifs e' b).bind fun t b2 => match truD t with
    | some true => (gelt e' b2).bind fun y b3 => .ok [y] b3
    | some false => .ok [] b2
    | none => .no)
abbrev gLc (own : List Nat) (tg : Tg) (git gifs gelt : Env → Bx → R P) : Env → Bx → R P := fun e b => (git e b).bind fun d b1 => match itemsD d with
  | none => .no
  | some xs => if xs.length ≤ line then (lcL (lcT own tg gifs gelt e) xs b1).bind fun ys b2 => .ok (.list ys) b2 else .no
theorem lc_imp {vs : List Nat} {tgD : Tg} {git gifs gelt : Env → Bx → R P} (h0 : bo ≠ none → 0 ∉ vs) (hix : ∀ i, i ∈ tgIx tgD → i ∈ vs) (σ : L2.St) (H : Hp) (Q : VK) (h : lift bo H0 cs W (lF bo) (gLc vs tgD git gifs gelt) σ H Q) :
    tLc (liftI bo H0 cs W false git) (liftG bo H0 tgD) (liftT bo H0 cs W0 (gT gifs)) (lift bo H0 cs W0 (lM bo .n) gelt) vs σ H Q := by
  obtain ⟨e, b, F, p, h⟩ := h
  refine ⟨e, b, F, p, ?_⟩
  dsimp only [gLc] at h
  cases q : git e b with
  | no =>
    rw [q] at h
    exact h
  | ex c d b1 =>
    rw [q] at h
    exact h
  | ok d b1 =>
    rw [q] at h
    have h : fin bo cs W (lF bo) σ F H (match itemsD d with
      | none => .no
      | some xs => if xs.length ≤ line then (lcL (lcT vs tgD gifs gelt e) xs b1).bind fun ys b2 => .ok (.list ys) b2 else .no) Q := h
    dsimp only
    cases qi : itemsD d with
    | none =>
      rw [qi] at h
      exact h
    | some xs =>
      rw [qi] at h
      dsimp only at h ⊢
      split at h
      · rename_i hxl
        intro J F1 H1 x z _ wk D hD
        have p1 : Pre bo H0 σ H1 e b1 F1 := p.step x z
        have h1 := fin_step (Rl := lF bo) (fun F' H' v d => hRFf H H1 F' H' v d) z x h
        have nD : some D ≠ bo := fun w => by
          have := (z D w.symm).2
          rw [hD] at this
          cases this
        have FD : F1 D = none := p1.sub.free hD
        refine ⟨fun i m Hh => ∃ (b : Bx) (F Hd : Hp) (acc : List V) (ad : List P), i ≤ xs.length ∧ m = xs.length - i ∧ Hh = upd Hd D (.lst acc) ∧ Hd D = none ∧ Pre bo H0 (L2.wipe σ vs) Hd (wipe e vs) b F ∧ Ext bo F1 H1 F Hd ∧ RpA F acc ad ∧ ad.length ≤ i ∧
          fin bo cs W (lF bo) σ F1 H1 ((lcL (lcT vs tgD gifs gelt e) (xs.drop i) b).bind fun ys b2 => .ok (.list (ad ++ ys)) b2) Q, ⟨xs.length, b1, F1, H1, [], [], Nat.zero_le _, rfl, rfl, hD, p1.wiped h0, Ext.refl p1.sub, .nil, Nat.le_refl _, ?_⟩, ?_⟩
        · rw [List.drop_zero]
          exact h1
        · rintro i m Hh ⟨b2, F2, Hd, acc, ad, hi, rfl, rfl, hDn, p2, x2, ra, hal, h2⟩
          have FD2 : F2 D = none := p2.sub.free hDn
          obtain ⟨m1, m2⟩ := made_lst (ds := ad) p2.sub p2.box hDn ra
          have p2' : Pre bo H0 (L2.wipe σ vs) (upd Hd D (.lst acc)) (wipe e vs) b2 F2 := p2.step m1.of_none (m1.box p2.box)
          have x2' : Ext bo F1 H1 F2 (upd Hd D (.lst acc)) := x2.trans m1.of_none (m1.box p2.box)
          by_cases hlt : i < xs.length
          · obtain ⟨d0, hd0⟩ : ∃ d0, xs[i]? = some d0 := ⟨xs[i], List.getElem?_eq_getElem hlt⟩
            have hdrop : xs.drop i = d0 :: xs.drop (i + 1) := by
              rw [List.drop_eq_getElem_cons hlt]
              rw [List.getElem?_eq_getElem hlt] at hd0
              rw [Option.some.inj hd0]
            rw [hdrop] at h2
            obtain ⟨go, yl⟩ := (wk i F2 _ x2').1 d0 hd0
            refine .inr ⟨go, fun H' => ∃ (b : Bx) (F Hd : Hp) (acc : List V) (ad : List P), i + 1 ≤ xs.length ∧ xs.length - (i + 1) = xs.length - (i + 1) ∧ H' = upd Hd D (.lst acc) ∧ Hd D = none ∧ Pre bo H0 (L2.wipe σ vs) Hd (wipe e vs) b F ∧ Ext bo F1 H1 F Hd ∧ RpA F acc ad ∧ ad.length ≤ i + 1 ∧
              fin bo cs W (lF bo) σ F1 H1 ((lcL (lcT vs tgD gifs gelt e) (xs.drop (i + 1)) b).bind fun ys b2 => .ok (.list (ad ++ ys)) b2) Q, fun H' nx => ⟨xs.length - (i + 1), by omega, nx⟩, fun y H3 hy => ?_⟩
            obtain ⟨F3, x3, r3⟩ := yl y H3 hy
            have z3 : BoxRep bo F3 H3 b2 := x3.box p2'.box
            have p3 := p2'.step x3.of_none z3
            have h2 : fin bo cs W (lF bo) σ F1 H1 (((lcT vs tgD gifs gelt e d0 b2).bind fun ys b1 => (lcL (lcT vs tgD gifs gelt e) (xs.drop (i + 1)) b1).bind fun zs b2 => .ok (ys ++ zs) b2).bind fun ys b2 => .ok (.list (ad ++ ys)) b2) Q := h2
            -- behind a turn
            have back : ∀ {b5 : Bx} {F5 H5 : Hp} {ws : List V} {ys : List P}, lcT vs tgD gifs gelt e d0 b2 = .ok ys b5 → Ext bo F3 H3 F5 H5 → BoxRep bo F5 H5 b5 → RpA F5 ws ys → ys.length ≤ 1 → H5 D = some (.lst acc) ∧
                ∃ (b : Bx) (F Hd : Hp) (acc' : List V) (ad' : List P), i + 1 ≤ xs.length ∧ xs.length - (i + 1) = xs.length - (i + 1) ∧ upd H5 D (.lst (acc ++ ws)) = upd Hd D (.lst acc') ∧ Hd D = none ∧ Pre bo H0 (L2.wipe σ vs) Hd (wipe e vs) b F ∧ Ext bo F1 H1 F Hd ∧ RpA F acc' ad' ∧ ad'.length ≤ i + 1 ∧
                fin bo cs W (lF bo) σ F1 H1 ((lcL (lcT vs tgD gifs gelt e) (xs.drop (i + 1)) b).bind fun ys b2 => .ok (.list (ad' ++ ys)) b2) Q := fun {b5 F5 H5 ws ys} ht x5 z5 r5 hy1 => by
              have x35 : Ext bo F2 (upd Hd D (.lst acc)) F5 H5 := x3.of_none.trans x5 z5
              have hD5 : H5 D = some (.lst acc) := x35.keep D _ nD upd_same
              have FD5 : F5 D = none := x35.un FD2 upd_same
              have xr := x35.rem FD5
              rw [rem_upd hDn] at xr
              have zr : BoxRep bo F5 (rem H5 D) b5 := fun β hb => by
                obtain ⟨q1, q2⟩ := z5 β hb
                refine ⟨q1, ?_⟩
                rw [rem_ne (fun w => nD (by rw [← w]; exact hb.symm))]
                exact q2
              refine ⟨hD5, b5, F5, rem H5 D, acc ++ ws, ad ++ ys, hlt, rfl, ?_, rem_same, p2.step xr zr, x2.trans xr zr, (ra.mono xr.sf).append r5, ?_, ?_⟩
              · funext a
                by_cases w : a = D
                · rw [w, upd_same, upd_same]
                · rw [upd_ne w, upd_ne w, rem_ne w]
              · rw [List.length_append]
                omega
              · rw [ht] at h2
                have e1 : ∀ (r : R (List P)), (r.bind fun zs b2 => R.ok (ys ++ zs) b2).bind (fun zs b2 => R.ok (PyData.list (ad ++ zs)) b2) = r.bind fun zs b2 => R.ok (PyData.list (ad ++ ys ++ zs)) b2 := fun r => by
                  cases r with
                  | ok a b => show R.ok (PyData.list (ad ++ (ys ++ a))) b = _; rw [← List.append_assoc]; rfl
                  | ex c d b => rfl
                  | no => rfl
                rw [← e1]
                exact h2
            cases qa : asgn tgD d0 (wipe e vs) with
            | none =>
              have : lcT vs tgD gifs gelt e d0 b2 = .no := by
                dsimp only [lcT]
                rw [qa]
                rfl
              rw [this] at h2
              exact h2.elim
            | some e' =>
              have hT : lcT vs tgD gifs gelt e d0 b2 = R.noex ((gifs e' b2).bind fun t b2 => match truD t with
                  | some true => (gelt e' b2).bind fun y b3 => .ok [y] b3
                  | some false => .ok [] b2
                  | none => .no) := by
                dsimp only [lcT]
                rw [qa]
              refine ⟨wipe e vs, b2, F3, d0, e', p3, r3, qa, fun σ3 p3' l3 u3 => ⟨?_, e', b2, F3, p3', ?_⟩⟩
              · refine wipe_eq ?_ fun j hj => ?_
                · rw [l3, wipe_length]
                · rw [u3 j (fun w => hj (hix j w)), wipe_out hj]
              · dsimp only [gT]
                cases qf : gifs e' b2 with
                | no =>
                  rw [qf] at hT
                  rw [hT] at h2
                  exact h2.elim
                | ex c d b =>
                  rw [qf] at hT
                  rw [hT] at h2
                  exact h2.elim
                | ok t b4 =>
                  rw [qf] at hT
                  have hT : lcT vs tgD gifs gelt e d0 b2 = R.noex (match truD t with
                    | some true => (gelt e' b4).bind fun y b3 => .ok [y] b3
                    | some false => .ok [] b4
                    | none => .no) := hT
                  show finT bo cs W0 σ3 F3 H3 (R.ofO (truD t) b4) _
                  cases qt : truD t with
                  | none =>
                    rw [qt] at hT
                    rw [hT] at h2
                    exact h2.elim
                  | some tt =>
                    intro F4 H4 x4 z4
                    cases tt with
                    | false =>
                      rw [if_neg (by decide)]
                      rw [qt] at hT
                      have hT : lcT vs tgD gifs gelt e d0 b2 = .ok [] b4 := hT
                      obtain ⟨hD4, w⟩ := back hT x4 z4 .nil (Nat.zero_le _)
                      rw [List.append_nil] at w
                      have e2 : upd H4 D (.lst acc) = H4 := by
                        funext a
                        by_cases w : a = D
                        · rw [w, upd_same, hD4]
                        · rw [upd_ne w]
                      rw [e2] at w
                      exact w
                    | true =>
                      rw [if_pos rfl]
                      rw [qt] at hT
                      have hT : lcT vs tgD gifs gelt e d0 b2 = R.noex ((gelt e' b4).bind fun y b3 => .ok [y] b3) := hT
                      refine ⟨e', b4, F4, p3'.step x4 z4, ?_⟩
                      cases qe : gelt e' b4 with
                      | no =>
                        rw [qe] at hT
                        rw [hT] at h2
                        exact h2.elim
                      | ex c d b =>
                        rw [qe] at hT
                        rw [hT] at h2
                        exact h2.elim
                      | ok y5 b5 =>
                        rw [qe] at hT
                        have hT : lcT vs tgD gifs gelt e d0 b2 = .ok [y5] b5 := hT
                        intro w5 F5 H5 x5 z5 r5
                        obtain ⟨hD5, w⟩ := back hT (x4.trans x5 z5) z5 (.cons r5 .nil) (Nat.le_refl _)
                        exact ⟨acc, hD5, by rw [ra.length, ← line_eq]; exact Nat.lt_of_le_of_lt hal (Nat.lt_of_lt_of_le hlt hxl), w⟩
          · have hie : i = xs.length := by omega
            subst hie
            refine .inl ⟨(wk _ F2 _ x2').2 rfl, ?_⟩
            rw [List.drop_length] at h2
            have h2 : fin bo cs W (lF bo) σ F1 H1 (.ok (.list (ad ++ [])) b2) Q := h2
            rw [List.append_nil] at h2
            exact h2 _ F2 _ x2' (m1.box p2.box) ⟨D, acc, rfl, nD, hD, FD2, upd_same, ra⟩
      · exact h.elim
theorem snd_lc {elt tg iter : Expr} {ifs : List Expr} {scope : Scope} {own : List (Str × Nat)} {pos : Pos} {tgD : Tg} {git gifs gelt : Env → Bx → R P} (hc : X.calm = true) (hN : X.N.Nodup) (hi : PI X tg iter (liftI bo H0 cs W false git)) (ok : BlkOk X.N X.env.scope scope own)
    (hg : ∀ (s : Shared) (H : Hp) (C : Addr) (cl : List (Str × Addr)) (fp : List Addr), PG (X.blk s H scope (compEnvC scope cl C X.env) fp) tg (liftG bo H0 tgD))
    (ht : ∀ (s : Shared) (H : Hp) (C : Addr) (cl : List (Str × Addr)) (fp : List Addr), PTs (X.blk s H scope (compEnvC scope cl C X.env) fp) ifs (liftT bo H0 cs W0 (gT gifs)))
    (he : ∀ (s : Shared) (H : Hp) (C : Addr) (cl : List (Str × Addr)) (fp : List Addr), PE (X.blk s H scope (compEnvC scope cl C X.env) fp) elt (lift bo H0 cs W0 (lM bo .n) gelt)) (hs : notSet iter = true)
    (h0 : bo ≠ none → 0 ∉ own.map (·.2)) (hix : ∀ i, i ∈ tgIx tgD → i ∈ own.map (·.2)) :
    PE X (.ListComp elt [⟨tg, iter, ifs, 0⟩] scope pos) (lift bo H0 cs W (lF bo) (gLc (own.map (·.2)) tgD git gifs gelt)) := by
  exact PE.imp (pe_lc hc hN hi ok hg ht he (notSet_folded hs)) fun σ H Q h => lc_imp h0 hix σ H Q h
end
end Dv
/-! text D7 -/
set_option Elab.async false
set_option linter.all false
set_option maxRecDepth 100000
set_option maxHeartbeats 4000000
namespace Dv
open PySem PySem.Spec L2

/-! ### calls of built-ins -/
def rAD (bo : Option Addr) (f : List P → Option P) : List V → Hp → VK → Prop := fun vs H Q => ∃ F b ds z, Same F H ∧ BoxRep bo F H b ∧ Paired (RpM bo F H .r) vs ds ∧ f ds = some z ∧ ∀ w F' H', Ext none F H F' H' → FrR bo H F' H' w z → Q w H'
section
variable {X : Cx} {bo : Option Addr} {H0 : Hp} {cs : Cls'} {W : WX} {F H : Hp}
theorem pa1 {vs : List V} {d : P} (h : Paired (RpM bo F H .r) vs [d]) : ∃ v, vs = [v] ∧ RpR bo F H v d := by
  cases h with
  | cons r t =>
    cases t
    exact ⟨_, rfl, r⟩
theorem pa2 {vs : List V} {d d' : P} (h : Paired (RpM bo F H .r) vs [d, d']) : ∃ v v', vs = [v, v'] ∧ RpR bo F H v d ∧ RpR bo F H v' d' := by
  cases h with
  | cons r t =>
    cases t with
    | cons r' t =>
      cases t
      exact ⟨_, _, rfl, r, r'⟩
theorem rpA_ints : ∀ {vs : List V} {ds : List P} {ns : List Int}, RpA F vs ds → intsOf ds = some ns → vs = ns.map V.int
  | _, _, ns, .nil, h => by
    cases h
    rfl
  | _, _, ns, .cons (d := d) (ds := ds) r t, h => by
    cases d with
    | int i =>
      have h : (intsOf ds).map (i :: ·) = some ns := h
      cases q : intsOf ds with
      | none =>
        rw [q] at h
        cases h
      | some ms =>
        rw [q] at h
        cases h
        rw [rpA_ints t q]
        cases r
        rfl
    | _ => cases h
theorem rpA_bools : ∀ {vs : List V} {ds : List P} {ns : List Bool}, RpA F vs ds → boolsOf ds = some ns → vs = ns.map V.bl
  | _, _, ns, .nil, h => by
    cases h
    rfl
  | _, _, ns, .cons (d := d) (ds := ds) r t, h => by
    cases d with
    | bool i =>
      have h : (boolsOf ds).map (i :: ·) = some ns := h
      cases q : boolsOf ds with
      | none =>
        rw [q] at h
        cases h
      | some ms =>
        rw [q] at h
        cases h
        rw [rpA_bools t q]
        cases r
        rfl
    | _ => cases h
theorem cb_len : CallR X (.builtin "len") (rAD bo fLen) := by
  intro pins s σ H vs us Q I r h
  obtain ⟨F, b, ds, z, sF, q, rp, e, k⟩ := h
  unfold fLen at e
  split at e
  · rename_i x
    obtain ⟨v, rfl, rv⟩ := pa1 rp
    have e : (lenD x).map PyData.int = some z := e
    cases x with
    | list xs =>
      cases e
      obtain ⟨a, ws, rfl, n, ha, ra⟩ := rv
      exact call_len pins s σ H _ us Q I r ⟨_, _, rfl, .inl ⟨ws, SqL.of ha, ra.length.symm⟩, k _ F H (Ext.refl sF) (Flt.int _).fr⟩
    | tuple xs =>
      cases e
      obtain ⟨a, ws, rfl, ha, ra⟩ := rv.tup
      exact call_len pins s σ H _ us Q I r ⟨_, _, rfl, .inr ⟨ws, SqT.of (sF _ _ ha), ra.length.symm⟩, k _ F H (Ext.refl sF) (Flt.int _).fr⟩
    | str t =>
      have e : (if t.length ≤ line then some (t.length : Int) else none).map PyData.int = some z := e
      split at e
      · rename_i hl
        cases e
        have e1 := rv.str
        subst e1
        exact call_len pins s σ H _ us Q I r ⟨_, t.length, rfl, ⟨by rw [← line_eq]; exact hl, rfl⟩, k _ F H (Ext.refl sF) (Flt.int _).fr⟩
      · cases e
    | _ => cases e
  · cases e
theorem cb_abs : CallR X (.builtin "abs") (rAD bo fAbs) := by
  intro pins s σ H vs us Q I r h
  obtain ⟨F, b, ds, z, sF, q, rp, e, k⟩ := h
  unfold fAbs at e
  split at e
  · rename_i i
    obtain ⟨v, rfl, rv⟩ := pa1 rp
    have e1 := rv.int
    subst e1
    cases e
    exact call_abs pins s σ H _ us Q I r ⟨i, rfl, k _ F H (Ext.refl sF) (Flt.int _).fr⟩
  · cases e
theorem cb_int : CallR X (.type "int") (rAD bo fInt) := by
  intro pins s σ H vs us Q I r h
  obtain ⟨F, b, ds, z, sF, q, rp, e, k⟩ := h
  unfold fInt at e
  split at e
  · rename_i i
    obtain ⟨v, rfl, rv⟩ := pa1 rp
    have e1 := rv.int
    subst e1
    cases e
    exact call_int1 pins s σ H _ us Q I r (.inl ⟨i, rfl, k _ F H (Ext.refl sF) (Flt.int _).fr⟩)
  · rename_i i
    obtain ⟨v, rfl, rv⟩ := pa1 rp
    have e1 := rv.bool
    subst e1
    cases e
    exact call_int1 pins s σ H _ us Q I r (.inr ⟨i, rfl, k _ F H (Ext.refl sF) (Flt.int _).fr⟩)
  · cases e
theorem cb_bool : CallR X (.type "bool") (rAD bo fBool) := by
  intro pins s σ H vs us Q I r h
  obtain ⟨F, b, ds, z, sF, q, rp, e, k⟩ := h
  unfold fBool at e
  split at e
  · rename_i i
    obtain ⟨v, rfl, rv⟩ := pa1 rp
    have e1 := rv.bool
    subst e1
    cases e
    exact call_bool1 pins s σ H _ us Q I r (.inr ⟨i, rfl, k _ F H (Ext.refl sF) (Flt.bl _).fr⟩)
  · rename_i i
    obtain ⟨v, rfl, rv⟩ := pa1 rp
    have e1 := rv.int
    subst e1
    cases e
    exact call_bool1 pins s σ H _ us Q I r (.inl ⟨i, rfl, k _ F H (Ext.refl sF) (Flt.bl _).fr⟩)
  · cases e
theorem cb_tuple : CallR X (.type "tuple") (rAD bo fTuple) := by
  intro pins s σ H vs us Q I r h
  obtain ⟨F, b, ds, z, sF, q, rp, e, k⟩ := h
  unfold fTuple at e
  split at e
  · rename_i xs
    obtain ⟨v, rfl, rv⟩ := pa1 rp
    obtain ⟨a, ws, rfl, n, ha, ra⟩ := rv
    cases e
    exact call_tuple_of pins s σ H _ us Q I r ⟨a, ws, rfl, .inl ⟨SqL.of ha, fun l hl => by
      obtain ⟨F', m1, m2⟩ := made_tup sF hl ra
      exact k _ _ _ m1 m2⟩⟩
  · rename_i xs
    obtain ⟨v, rfl, rv⟩ := pa1 rp
    obtain ⟨a, ws, rfl, ha, ra⟩ := rv.tup
    cases e
    exact call_tuple_of pins s σ H _ us Q I r ⟨a, ws, rfl, .inr ⟨SqT.of (sF _ _ ha), k _ F H (Ext.refl sF) (Rp.tup ha ra)⟩⟩
  · cases e
theorem cb_list : CallR X (.type "list") (rAD bo fList) := by
  intro pins s σ H vs us Q I r h
  obtain ⟨F, b, ds, z, sF, q, rp, e, k⟩ := h
  unfold fList at e
  split at e
  · rename_i xs
    obtain ⟨v, rfl, rv⟩ := pa1 rp
    obtain ⟨a, ws, rfl, n, ha, ra⟩ := rv
    cases e
    exact call_list_of pins s σ H _ us Q I r ⟨a, ws, rfl, .inl (SqL.of ha), fun l hl => by
      obtain ⟨m1, m2⟩ := made_lst sF q hl ra
      exact k _ _ _ m1 m2⟩
  · rename_i xs
    obtain ⟨v, rfl, rv⟩ := pa1 rp
    obtain ⟨a, ws, rfl, ha, ra⟩ := rv.tup
    cases e
    exact call_list_of pins s σ H _ us Q I r ⟨a, ws, rfl, .inr (SqT.of (sF _ _ ha)), fun l hl => by
      obtain ⟨m1, m2⟩ := made_lst sF q hl ra
      exact k _ _ _ m1 m2⟩
  · cases e
theorem maxI_spec : ∀ {ns : List Int} {m : Int}, maxI ns = some m → m ∈ ns ∧ ∀ y ∈ ns, y ≤ m
  | [], m, h => by cases h
  | x :: xs, m, h => by
    have h : (match maxI xs with | none => some x | some y => some (if y < x then x else y)) = some m := h
    cases q : maxI xs with
    | none =>
      rw [q] at h
      cases h
      have : xs = [] := by
        cases xs with
        | nil => rfl
        | cons a as =>
          have q : (match maxI as with | none => some a | some y => some (if y < a then a else y)) = none := q
          split at q <;> cases q
      subst this
      exact ⟨List.mem_cons_self, fun y hy => by
        rcases List.mem_cons.mp hy with e | e
        · omega
        · cases e⟩
    | some y =>
      rw [q] at h
      obtain ⟨h1, h2⟩ := maxI_spec q
      by_cases c : y < x
      · rw [show (match some y with | none => some x | some y => some (if y < x then x else y)) = some x by simp [c]] at h
        cases h
        exact ⟨List.mem_cons_self, fun z hz => by
          rcases List.mem_cons.mp hz with e | e
          · omega
          · have := h2 z e
            omega⟩
      · rw [show (match some y with | none => some x | some y => some (if y < x then x else y)) = some y by simp [c]] at h
        cases h
        exact ⟨List.mem_cons_of_mem _ h1, fun z hz => by
          rcases List.mem_cons.mp hz with e | e
          · omega
          · exact h2 z e⟩
theorem minI_spec : ∀ {ns : List Int} {m : Int}, minI ns = some m → m ∈ ns ∧ ∀ y ∈ ns, m ≤ y
  | [], m, h => by cases h
  | x :: xs, m, h => by
    have h : (match minI xs with | none => some x | some y => some (if x < y then x else y)) = some m := h
    cases q : minI xs with
    | none =>
      rw [q] at h
      cases h
      have : xs = [] := by
        cases xs with
        | nil => rfl
        | cons a as =>
          have q : (match minI as with | none => some a | some y => some (if a < y then a else y)) = none := q
          split at q <;> cases q
      subst this
      exact ⟨List.mem_cons_self, fun y hy => by
        rcases List.mem_cons.mp hy with e | e
        · omega
        · cases e⟩
    | some y =>
      rw [q] at h
      obtain ⟨h1, h2⟩ := minI_spec q
      by_cases c : x < y
      · rw [show (match some y with | none => some x | some y => some (if x < y then x else y)) = some x by simp [c]] at h
        cases h
        exact ⟨List.mem_cons_self, fun z hz => by
          rcases List.mem_cons.mp hz with e | e
          · omega
          · have := h2 z e
            omega⟩
      · rw [show (match some y with | none => some x | some y => some (if x < y then x else y)) = some y by simp [c]] at h
        cases h
        exact ⟨List.mem_cons_of_mem _ h1, fun z hz => by
          rcases List.mem_cons.mp hz with e | e
          · omega
          · exact h2 z e⟩
section
variable {prog : Program} {w : World} {A : Around} {E : Value → Shared → Prop} {s : Shared} {l : Addr} {its : List Value} {ns : List Int} {Q : Value → Shared → Prop}
theorem sum_rawT (hh : A.handled = none) (hl : s.heap.IsTuple l its.toArray) (hi : PyProof.Rows.IntsAre its ns)
    (h : ∀ h' tk t', (∀ b o, s.heap.get? b = some o → h'.get? b = some o) → Q (.int ns.sum t') { s with heap := h', toks := tk }) : wpAny (model prog w) A (call (.builtin "sum") [.ref l]) Q E s := by
  obtain ⟨xs, e⟩ := hi.allInts.items
  have hn : numsOf (intItems xs).toList = ns := by rw [← e]; exact hi.numsOf
  rw [nums_intItems] at hn
  rw [e] at hl
  refine call_sum_walkG (wpAny_pyIter_tuple hl ?_)
  have hlt : l < s.heap.objs.size := by
    obtain ⟨_, e, _⟩ := hl
    exact Heap.lt_size e
  refine ⟨s.heap.objs.size, [s.heap.objs.size, l], [s.heap.objs.size], (intItems xs).size, _, _, numAt xs, rfl, Walks.tuple (A := A.in1) hh _ l (Nat.ne_of_lt hlt) (intItems xs), ⟨⟨_, Heap.get?_push_size _ rfl, rfl, rfl⟩, hl.push _⟩, fun b hb => ?_, (fun _ _ => intItems_at), fun h' tk t' hk => ?_⟩
  · show b < (s.heap.push _).objs.size
    rw [show (s.heap.push { cls := .type "tuple_iterator", data := .fields #[.ref l, .int 0 0] }).objs.size = s.heap.objs.size + 1 from Array.size_push _]
    rcases List.mem_cons.mp hb with e | hb
    · rw [e]; exact Nat.lt_succ_self _
    · rw [List.mem_singleton.mp hb]; exact Nat.lt_succ_of_lt hlt
  · have := h h' tk t' (fun b o e => hk b o (fun hm => by rw [List.mem_singleton.mp hm] at e; exact Nat.lt_irrefl _ (Heap.lt_size e)) (Heap.get?_push_of_some _ e))
    rw [preSum_eq, hn, List.take_of_length_le (by simp [intItems, ← hn])]
    exact this
end
theorem cb_sum (hc : X.calm = true) : CallR X (.builtin "sum") (rAD bo fSum) := by
  intro pins s σ H vs us Q I r h
  obtain ⟨F, b, ds, z, sF, q, rp, e, k⟩ := h
  unfold fSum at e
  split at e
  · rename_i xs
    obtain ⟨v, rfl, rv⟩ := pa1 rp
    obtain ⟨a, ws, rfl, n, ha, ra⟩ := rv
    cases qi : intsOf xs with
    | none =>
      rw [qi] at e
      cases e
    | some ns =>
      rw [qi] at e
      cases e
      have := rpA_ints ra qi
      subst this
      exact L2.cr_sum hc pins s σ H _ us Q I r ⟨a, ns, rfl, SqL.of ha, k _ F H (Ext.refl sF) (Flt.int _).fr⟩
  · rename_i xs
    obtain ⟨v, rfl, rv⟩ := pa1 rp
    obtain ⟨a, ws, rfl, ha, ra⟩ := rv.tup
    cases qi : intsOf xs with
    | none =>
      rw [qi] at e
      cases e
    | some ns =>
      rw [qi] at e
      cases e
      have := rpA_ints ra qi
      subst this
      obtain ⟨its, rv2, hl, _⟩ := I.tuple (SqT.of (sF _ _ ha))
      rw [Vals.ref1 r]
      exact sum_rawT (I.ok.hd hc) hl rv2.ints fun h' tk t' hk => ⟨.int _, H, I.kept hk, ⟨_, rfl⟩, k _ F H (Ext.refl sF) (Flt.int _).fr⟩
  · cases e
theorem cb_all (hc : X.calm = true) : CallR X (.builtin "all") (rAD bo fAll) := by
  intro pins s σ H vs us Q I r h
  obtain ⟨F, b, ds, z, sF, q, rp, e, k⟩ := h
  unfold fAll at e
  split at e
  · rename_i xs
    obtain ⟨v, rfl, rv⟩ := pa1 rp
    obtain ⟨a, ws, rfl, n, ha, ra⟩ := rv
    have e : (boolsOf xs).map (fun bs => PyData.bool (bs.all id)) = some z := e
    cases qi : boolsOf xs with
    | none =>
      rw [qi] at e
      cases e
    | some ns =>
      rw [qi] at e
      cases e
      have := rpA_bools ra qi
      subst this
      exact L2.cr_all hc pins s σ H _ us Q I r ⟨a, ns, rfl, SqL.of ha, k _ F H (Ext.refl sF) (Flt.bl _).fr⟩
  · cases e
theorem cb_any (hc : X.calm = true) : CallR X (.builtin "any") (rAD bo fAny) := by
  intro pins s σ H vs us Q I r h
  obtain ⟨F, b, ds, z, sF, q, rp, e, k⟩ := h
  unfold fAny at e
  split at e
  · rename_i xs
    obtain ⟨v, rfl, rv⟩ := pa1 rp
    obtain ⟨a, ws, rfl, n, ha, ra⟩ := rv
    have e : (boolsOf xs).map (fun bs => PyData.bool (bs.any id)) = some z := e
    cases qi : boolsOf xs with
    | none =>
      rw [qi] at e
      cases e
    | some ns =>
      rw [qi] at e
      cases e
      have := rpA_bools ra qi
      subst this
      exact L2.cr_any hc pins s σ H _ us Q I r ⟨a, ns, rfl, SqL.of ha, k _ F H (Ext.refl sF) (Flt.bl _).fr⟩
  · cases e
/-! max, min of a tuple of ints -/
theorem readsAll_ints {h : Heap} : ∀ {its : List Value} {ns : List Int}, PyProof.Rows.IntsAre its ns → ∃ as, ReadsAll h its (ns.map .int) as
  | _, _, .nil => ⟨[], .nil⟩
  | _, _, .cons n t r => by
    obtain ⟨as, q⟩ := readsAll_ints (h := h) r
    exact ⟨[] ++ as, .cons (.int n t) q⟩
theorem alikeAll_ints (ns : List Int) : PySem.W.AlikeAll (ns.map PyData.int) := by
  refine ⟨fun x hx y hy => ?_, fun x hx => ?_⟩
  · obtain ⟨i, _, rfl⟩ := List.mem_map.mp hx
    obtain ⟨j, _, rfl⟩ := List.mem_map.mp hy
    simp [PySem.W.alike]
  · obtain ⟨i, _, rfl⟩ := List.mem_map.mp hx
    intro z
    cases z
theorem foldl_max_le (ns : List Int) : ∀ (n m : Int), (m = n ∨ m ∈ ns) → (∀ y, (y = n ∨ y ∈ ns) → y ≤ m) → ns.foldl max n = m := by
  induction ns with
  | nil =>
    intro n m h1 h2
    rcases h1 with h1 | h1
    · exact h1.symm
    · cases h1
  | cons k r ih =>
    intro n m h1 h2
    rw [List.foldl_cons]
    have hn := h2 n (.inl rfl)
    have hk := h2 k (.inr List.mem_cons_self)
    refine ih (max n k) m ?_ fun y hy => ?_
    · rcases h1 with h1 | h1
      · left
        omega
      · rcases List.mem_cons.mp h1 with h1 | h1
        · left
          omega
        · exact .inr h1
    · rcases hy with hy | hy
      · omega
      · exact h2 y (.inr (List.mem_cons_of_mem _ hy))
theorem foldl_min_le (ns : List Int) : ∀ (n m : Int), (m = n ∨ m ∈ ns) → (∀ y, (y = n ∨ y ∈ ns) → m ≤ y) → ns.foldl min n = m := by
  induction ns with
  | nil =>
    intro n m h1 h2
    rcases h1 with h1 | h1
    · exact h1.symm
    · cases h1
  | cons k r ih =>
    intro n m h1 h2
    rw [List.foldl_cons]
    have hn := h2 n (.inl rfl)
    have hk := h2 k (.inr List.mem_cons_self)
    refine ih (min n k) m ?_ fun y hy => ?_
    · rcases h1 with h1 | h1
      · left
        omega
      · rcases List.mem_cons.mp h1 with h1 | h1
        · left
          omega
        · exact .inr h1
    · rcases hy with hy | hy
      · omega
      · exact h2 y (.inr (List.mem_cons_of_mem _ hy))
theorem depthAll_ints : ∀ ns : List Int, PyData.depthAll (ns.map PyData.int) = 0
  | [] => by simp [PyData.depthAll]
  | x :: xs => by
    show PyData.depthAll (.int x :: xs.map .int) = 0
    rw [PyData.depthAll, depthAll_ints xs]
    simp [PyData.depth]
theorem cb_max (hc : X.calm = true) (hu : X.A.units + 70 < cLine) : CallR X (.builtin "max") (rAD bo fMax) := by
  intro pins s σ H vs us Q I r h
  obtain ⟨F, b, ds, z, sF, q, rp, e, k⟩ := h
  unfold fMax at e
  split at e
  · rename_i xs
    obtain ⟨v, rfl, rv⟩ := pa1 rp
    obtain ⟨a, ws, rfl, n, ha, ra⟩ := rv
    cases qi : intsOf xs with
    | none =>
      rw [qi] at e
      cases e
    | some ns =>
      rw [qi] at e
      have e : (maxI ns).map PyData.int = some z := e
      cases qm : maxI ns with
      | none =>
        rw [qm] at e
        cases e
      | some m =>
        rw [qm] at e
        cases e
        have := rpA_ints ra qi
        subst this
        obtain ⟨s1, s2⟩ := maxI_spec qm
        refine L2.cr_max hc pins s σ H _ us Q I r ⟨a, ns, rfl, SqL.of ha, List.length_pos_of_mem s1, fun m' h1 h2 => ?_⟩
        have : m' = m := by
          have a1 := h2 m s1
          have a2 := s2 m' h1
          omega
        subst this
        exact k _ F H (Ext.refl sF) (Flt.int _).fr
  · rename_i xs
    obtain ⟨v, rfl, rv⟩ := pa1 rp
    obtain ⟨a, ws, rfl, ha, ra⟩ := rv.tup
    cases qi : intsOf xs with
    | none =>
      rw [qi] at e
      cases e
    | some ns =>
      rw [qi] at e
      have e : (maxI ns).map PyData.int = some z := e
      cases qm : maxI ns with
      | none =>
        rw [qm] at e
        cases e
      | some m =>
        rw [qm] at e
        cases e
        have := rpA_ints ra qi
        subst this
        obtain ⟨s1, s2⟩ := maxI_spec qm
        cases ns with
        | nil => cases s1
        | cons n ns =>
          obtain ⟨its, rv2, hl, _⟩ := I.tuple (SqT.of (sF _ _ ha))
          rw [Vals.ref1 r]
          obtain ⟨as, q1⟩ := readsAll_ints (h := s.heap) rv2.ints
          refine PySem.W.max_tuple_data (x := .int n) (xs := ns.map .int) (I.ok.hd hc) hl q1 (alikeAll_ints (n :: ns)) (by have := depthAll_ints (n :: ns); rw [List.map_cons] at this; rw [this]; omega) fun i v h' tk bs hv rd hk => ?_
          rw [PySem.W.maxD_ints, foldl_max_le ns n m (List.mem_cons.mp s1) (fun y hy => s2 y (List.mem_cons.mpr hy))] at rd
          cases rd
          exact ⟨.int _, H, I.kept hk, ⟨_, rfl⟩, k _ F H (Ext.refl sF) (Flt.int _).fr⟩
  · obtain ⟨v, v', rfl, rv, rv'⟩ := pa2 rp
    have e1 := rv.int
    have e2 := rv'.int
    subst e1
    subst e2
    cases e
    exact call_max2 hc pins s σ H _ us Q I r ⟨_, _, rfl, k _ F H (Ext.refl sF) (Flt.int _).fr⟩
  · cases e
theorem cb_min (hc : X.calm = true) (hu : X.A.units + 70 < cLine) : CallR X (.builtin "min") (rAD bo fMin) := by
  intro pins s σ H vs us Q I r h
  obtain ⟨F, b, ds, z, sF, q, rp, e, k⟩ := h
  unfold fMin at e
  split at e
  · rename_i xs
    obtain ⟨v, rfl, rv⟩ := pa1 rp
    obtain ⟨a, ws, rfl, n, ha, ra⟩ := rv
    cases qi : intsOf xs with
    | none =>
      rw [qi] at e
      cases e
    | some ns =>
      rw [qi] at e
      have e : (minI ns).map PyData.int = some z := e
      cases qm : minI ns with
      | none =>
        rw [qm] at e
        cases e
      | some m =>
        rw [qm] at e
        cases e
        have := rpA_ints ra qi
        subst this
        obtain ⟨s1, s2⟩ := minI_spec qm
        refine L2.cr_min hc pins s σ H _ us Q I r ⟨a, ns, rfl, SqL.of ha, List.length_pos_of_mem s1, fun m' h1 h2 => ?_⟩
        have : m' = m := by
          have a1 := h2 m s1
          have a2 := s2 m' h1
          omega
        subst this
        exact k _ F H (Ext.refl sF) (Flt.int _).fr
  · rename_i xs
    obtain ⟨v, rfl, rv⟩ := pa1 rp
    obtain ⟨a, ws, rfl, ha, ra⟩ := rv.tup
    cases qi : intsOf xs with
    | none =>
      rw [qi] at e
      cases e
    | some ns =>
      rw [qi] at e
      have e : (minI ns).map PyData.int = some z := e
      cases qm : minI ns with
      | none =>
        rw [qm] at e
        cases e
      | some m =>
        rw [qm] at e
        cases e
        have := rpA_ints ra qi
        subst this
        obtain ⟨s1, s2⟩ := minI_spec qm
        cases ns with
        | nil => cases s1
        | cons n ns =>
          obtain ⟨its, rv2, hl, _⟩ := I.tuple (SqT.of (sF _ _ ha))
          rw [Vals.ref1 r]
          obtain ⟨as, q1⟩ := readsAll_ints (h := s.heap) rv2.ints
          refine PySem.W.min_tuple_data (x := .int n) (xs := ns.map .int) (I.ok.hd hc) hl q1 (alikeAll_ints (n :: ns)) (by have := depthAll_ints (n :: ns); rw [List.map_cons] at this; rw [this]; omega) fun i v h' tk bs hv rd hk => ?_
          rw [PySem.W.minD_ints, foldl_min_le ns n m (List.mem_cons.mp s1) (fun y hy => s2 y (List.mem_cons.mpr hy))] at rd
          cases rd
          exact ⟨.int _, H, I.kept hk, ⟨_, rfl⟩, k _ F H (Ext.refl sF) (Flt.int _).fr⟩
  · obtain ⟨v, v', rfl, rv, rv'⟩ := pa2 rp
    have e1 := rv.int
    have e2 := rv'.int
    subst e1
    subst e2
    cases e
    exact call_min2 hc pins s σ H _ us Q I r ⟨_, _, rfl, k _ F H (Ext.refl sF) (Flt.int _).fr⟩
  · cases e
/-- f(e, ..), f a built-in -/
theorem biE {f : List P → Option P} {gs : Env → Bx → R P} (σ : L2.St) (H : Hp) (Q : VK) (h : lift bo H0 cs W (lF bo) (fun e b => (gs e b).bind fun ds b1 => R.ofO (f (argsOf ds)) b1) σ H Q) : tCB (rAD bo f) (liftA bo H0 cs W .r gs) σ H Q := by
  obtain ⟨e, b, F, p, h⟩ := h
  refine ⟨e, b, F, p, fin_bindA hRFf p h fun ds b1 vs F1 H1 p1 x1 r1 h1 => ?_⟩
  cases q : f (argsOf ds) with
  | none =>
    rw [q] at h1
    exact h1.elim
  | some z =>
    rw [q] at h1
    exact ⟨F1, b1, argsOf ds, z, p1.sub, p1.box, r1, q, fun w F' H' x r => h1 w F' H' x.of_none (x.box p1.box) r⟩
theorem snd_biB {ov fr : Bool} {x : Str} {id : String} {f : List P → Option P} {e : Expr} {es : List Expr} {p pos : Pos} {gs : Env → Bx → R P} (hc : CallR X (.builtin id) (rAD bo f)) (hg : Gl X x) (hm : X.mg x = none) (hv : bootBuiltins x = some (.builtin id)) (ha : PA X (e :: es) (liftA bo H0 cs W .r gs))
    (hn : x ≠ "__name__") (hdb : (x == ("__debug__" : Str)) = false) (hp : allPlain (e :: es) = true) : Snd X bo H0 cs W ov fr (.Call (.Name x p) (e :: es) [] pos) fun e b => (gs e b).bind fun ds b1 => R.ofO (f (argsOf ds)) b1 := by
  have hp' := hp
  unfold allPlain at hp'
  rw [List.all_cons, Bool.and_eq_true] at hp'
  exact Snd.of_f (PE.imp (pe_callB hc hg hm hv ha hn hdb (starEach_of hp'.1) (noStars hp'.2)) biE) rfl
theorem snd_biT {ov fr : Bool} {x : Str} {id : String} {f : List P → Option P} {e : Expr} {es : List Expr} {p pos : Pos} {gs : Env → Bx → R P} (hc : CallR X (.type id) (rAD bo f)) (hg : Gl X x) (hm : X.mg x = none) (hv : bootBuiltins x = some (.type id)) (ha : PA X (e :: es) (liftA bo H0 cs W .r gs))
    (hn : x ≠ "__name__") (hdb : (x == ("__debug__" : Str)) = false) (hp : allPlain (e :: es) = true) : Snd X bo H0 cs W ov fr (.Call (.Name x p) (e :: es) [] pos) fun e b => (gs e b).bind fun ds b1 => R.ofO (f (argsOf ds)) b1 := by
  have hp' := hp
  unfold allPlain at hp'
  rw [List.all_cons, Bool.and_eq_true] at hp'
  exact Snd.of_f (PE.imp (pe_callTy hc hg hm hv ha hn hdb (starEach_of hp'.1) (noStars hp'.2)) biE) rfl

/-! isinstance -/
def tyOfD : P → String
  | .none => "NoneType"
  | .bool _ => "bool"
  | .int _ => "int"
  | .str _ => "str"
  | .list _ => "list"
  | .tuple _ => "tuple"
  | .dict _ => "dict"
theorem tyX_of {K : PySem.W.Frag} {v : V} {d : P} (s : Same F H) (r : RpR bo F H v d) (nD : isD d = false) : TyX K H v (.type (tyOfD d)) ∧ ∀ x, d ≠ .dict x := by
  cases d with
  | none =>
    cases (show Rp F v .none from r)
    exact ⟨.base .non, fun _ z => nomatch z⟩
  | bool b =>
    rw [r.bool]
    exact ⟨.base (.bl _), fun _ z => nomatch z⟩
  | int b =>
    rw [r.int]
    exact ⟨.base (.int _), fun _ z => nomatch z⟩
  | str b =>
    rw [r.str]
    exact ⟨.base (.str _), fun _ z => nomatch z⟩
  | list ds =>
    obtain ⟨a, vs, rfl, n, h, _⟩ := r
    exact ⟨.base (.lst h), fun _ z => nomatch z⟩
  | tuple ds =>
    obtain ⟨a, vs, rfl, h, _⟩ := r.tup
    exact ⟨.base (.tup (s _ _ h)), fun _ z => nomatch z⟩
  | dict ds => cases nD
def tyName : Ty → Option String
  | .int_ => some "int"
  | .str_ => some "str"
  | .bool_ => some "bool"
  | .tuple_ => some "tuple"
  | .list_ => some "list"
  | _ => none
theorem isD_of {t : Ty} {d : P} {z : Bool} (h : isiD t d = some z) : isD d = false := by
  cases d with
  | dict ds => cases t <;> cases h
  | _ => rfl
theorem isiD_some {t : Ty} {d : P} (h : isD d = false) : isiD t d ≠ none := by
  cases d with
  | dict ds => cases h
  | _ => cases t <;> exact (fun z => nomatch z)
theorem kit_all {t : Ty} {n : String} (h : tyName t = some n) (d : P) (hd : ∀ x, d ≠ .dict x) : kitB (tyOfD d) n = isiD t d := by
  cases t <;> cases h <;> cases d <;> first
    | exact absurd rfl (hd _)
    | exact (by decide +kernel : kitB "NoneType" "int" = some false)
    | exact (by decide +kernel : kitB "NoneType" "str" = some false)
    | exact (by decide +kernel : kitB "NoneType" "bool" = some false)
    | exact (by decide +kernel : kitB "NoneType" "tuple" = some false)
    | exact (by decide +kernel : kitB "NoneType" "list" = some false)
    | exact (by decide +kernel : kitB "bool" "int" = some true)
    | exact (by decide +kernel : kitB "bool" "str" = some false)
    | exact (by decide +kernel : kitB "bool" "bool" = some true)
    | exact (by decide +kernel : kitB "bool" "tuple" = some false)
    | exact (by decide +kernel : kitB "bool" "list" = some false)
    | exact (by decide +kernel : kitB "int" "int" = some true)
    | exact (by decide +kernel : kitB "int" "str" = some false)
    | exact (by decide +kernel : kitB "int" "bool" = some false)
    | exact (by decide +kernel : kitB "int" "tuple" = some false)
    | exact (by decide +kernel : kitB "int" "list" = some false)
    | exact (by decide +kernel : kitB "str" "int" = some false)
    | exact (by decide +kernel : kitB "str" "str" = some true)
    | exact (by decide +kernel : kitB "str" "bool" = some false)
    | exact (by decide +kernel : kitB "str" "tuple" = some false)
    | exact (by decide +kernel : kitB "str" "list" = some false)
    | exact (by decide +kernel : kitB "list" "int" = some false)
    | exact (by decide +kernel : kitB "list" "str" = some false)
    | exact (by decide +kernel : kitB "list" "bool" = some false)
    | exact (by decide +kernel : kitB "list" "tuple" = some false)
    | exact (by decide +kernel : kitB "list" "list" = some true)
    | exact (by decide +kernel : kitB "tuple" "int" = some false)
    | exact (by decide +kernel : kitB "tuple" "str" = some false)
    | exact (by decide +kernel : kitB "tuple" "bool" = some false)
    | exact (by decide +kernel : kitB "tuple" "tuple" = some true)
    | exact (by decide +kernel : kitB "tuple" "list" = some false)
theorem isi_one {t : Ty} {n : String} {ov fr o1 f1 : Bool} {a : Expr} {p p2 pos : Pos} {ga : Env → Bx → R P} (ht : tyName t = some n) (hg : Gl X "isinstance") (hm : X.mg "isinstance" = none) (hg2 : Gl X (Str.ofString n)) (hm2 : X.mg (Str.ofString n) = none) (hv2 : bootBuiltins (Str.ofString n) = some (.type n))
    (hn2 : Str.ofString n ≠ "__name__") (hd2 : (Str.ofString n == ("__debug__" : Str)) = false) (ha : Snd X bo H0 cs W o1 f1 a ga) (hs : notStar a = true) :
    Snd X bo H0 cs W ov fr (.Call (.Name "isinstance" p) [a, .Name (Str.ofString n) p2] [] pos) fun e b => (ga e b).bind fun d b1 => R.ofO ((isiD t d).map .bool) b1 := by
  have hb : PE X (.Name (Str.ofString n) p2) (tC (.ty n)) := pe_bltn hg2 hm2 hv2 rfl hn2 hd2
  have hpa := pa_cons ha.r (pa_cons hb pa_nil (by rfl)) (starEach_of hs)
  refine Snd.of_f (PE.imp (pe_callB call_isi hg hm (by decide +kernel) hpa (by decide) (by decide) (starEach_of hs) (by rfl)) fun σ H Q ⟨e, b, F, p, h⟩ => ⟨e, b, F, p, fin_bind hRFf p h fun d b1 v F1 H1 p1 x1 r1 h1 => ?_⟩) rfl
  cases q : isiD t d with
  | none =>
    rw [q] at h1
    exact h1.elim
  | some z =>
    obtain ⟨ty, nd⟩ := tyX_of (K := X.K) p1.sub (show RpR bo F1 H1 v d from r1) (isD_of q)
    rw [q] at h1
    exact ⟨v, .ty n, _, _, z, rfl, .ty n, ty, kit_ty (by rw [kit_all ht d nd, q]), h1 _ F1 H1 (Ext.refl p1.sub) p1.box (Flt.bl z).fr⟩
/-- isinstance(x, (T1, T2)) -/
theorem isi_two {t t1 t2 : Ty} {n1 n2 : String} {ov fr o1 f1 : Bool} {a : Expr} {p pa pb pt pos : Pos} {k : Nat} {ga : Env → Bx → R P} (ht1 : tyName t1 = some n1) (ht2 : tyName t2 = some n2) (hor : ∀ d b1 b2, isiD t1 d = some b1 → isiD t2 d = some b2 → isiD t d = some (b1 || b2)) (hg : Gl X "isinstance") (hm : X.mg "isinstance" = none)
    (hg1 : Gl X (Str.ofString n1)) (hm1 : X.mg (Str.ofString n1) = none) (hv1 : bootBuiltins (Str.ofString n1) = some (.type n1)) (hn1 : Str.ofString n1 ≠ "__name__") (hd1 : (Str.ofString n1 == ("__debug__" : Str)) = false)
    (hg2 : Gl X (Str.ofString n2)) (hm2 : X.mg (Str.ofString n2) = none) (hv2 : bootBuiltins (Str.ofString n2) = some (.type n2)) (hn2 : Str.ofString n2 ≠ "__name__") (hd2 : (Str.ofString n2 == ("__debug__" : Str)) = false) (ha : Snd X bo H0 cs W o1 f1 a ga) (hs : notStar a = true) :
    Snd X bo H0 cs W ov fr (.Call (.Name "isinstance" p) [a, .Tuple [.Name (Str.ofString n1) pa, .Name (Str.ofString n2) pb] k pt] [] pos) fun e b => (ga e b).bind fun d b1 => R.ofO ((isiD t d).map .bool) b1 := by
  have hb1 : PE X (.Name (Str.ofString n1) pa) (tC (.ty n1)) := pe_bltn hg1 hm1 hv1 rfl hn1 hd1
  have hb2 : PE X (.Name (Str.ofString n2) pb) (tC (.ty n2)) := pe_bltn hg2 hm2 hv2 rfl hn2 hd2
  have htup : PE X (.Tuple [.Name (Str.ofString n1) pa, .Name (Str.ofString n2) pb] k pt) _ := pe_tup (pa_cons hb1 (pa_cons hb2 pa_nil (by rfl)) (by rfl))
  have hpa := pa_cons ha.r (pa_cons htup pa_nil (by rfl)) (starEach_of hs)
  refine Snd.of_f (PE.imp (pe_callB call_isiT hg hm (by decide +kernel) hpa (by decide) (by decide) (starEach_of hs) (by rfl)) fun σ H Q ⟨e, b, F, p, h⟩ => ⟨e, b, F, p, fin_bind hRFf p h fun d b1 v F1 H1 p1 x1 r1 h1 => ?_⟩) rfl
  have hdn : isD d = false := by
    cases q : isiD t d with
    | none =>
      rw [q] at h1
      exact h1.elim
    | some z => exact isD_of q
  obtain ⟨ty, nd⟩ := tyX_of (K := X.K) p1.sub (show RpR bo F1 H1 v d from r1) hdn
  refine ⟨by show 2 ≤ sizeLine; decide, fun q hq => ?_⟩
  have xq : Ext none F1 H1 F1 (upd H1 q (.tup [.ty n1, .ty n2])) := ⟨Same.refl _, fun c o hc => by
      rw [upd_ne (ne_of_none (p1.sub _ _ hc) hq)]
      exact p1.sub _ _ hc, fun c o _ hc => by
      rw [upd_ne (ne_of_none hc hq)]
      exact hc, fun c o h1 h2 => by
      rw [h1] at h2
      cases h2⟩
  obtain ⟨ty', _⟩ := tyX_of (K := X.K) xq.sub (RpR.mono (bo := bo) xq.of_none r1) hdn
  cases q1 : isiD t1 d with
  | none =>
    exact absurd q1 (isiD_some hdn)
  | some z1 =>
    cases q2 : isiD t2 d with
    | none =>
      exact absurd q2 (isiD_some hdn)
    | some z2 =>
      rw [hor d z1 z2 q1 q2] at h1
      refine ⟨v, q, [.ty n1, .ty n2], _, [.type n1, .type n2], z1 || z2, rfl, upd_same, .cons (.ty _) (.cons (.ty _) .nil), ty', ?_, h1 _ F1 _ xq.of_none (xq.box p1.box) (Flt.bl _).fr⟩
      refine kitAny_cons (b := z1) (kit_ty (by rw [kit_all ht1 d nd, q1])) (fun e1 => ?_) (fun e1 => by rw [e1]; rfl)
      refine kitAny_cons (b := z2) (kit_ty (by rw [kit_all ht2 d nd, q2])) (fun e2 => ?_) (fun e2 => by rw [e1, e2]; rfl)
      rw [e1, e2]
      exact kitAny_nil
end
end Dv
/-! text DR -/
set_option Elab.async false
set_option linter.all false
set_option maxRecDepth 100000
set_option maxHeartbeats 4000000
namespace Dv
open PySem PySem.Spec L2 PySem.W

/-! ### sorted(xs) -/
theorem leD_total : PySem.W.TotalLe leD := by
  have h := PySem.W.sortLe_total (PyProof.Rows.listOrd PyProof.Rows.itemOrd) false (fun d : P => PySem.W.keyToks d)
  exact h
theorem insD_at {le : P → P → Bool} {a : P} : ∀ {l1 l2 : List P}, (∀ b ∈ l1, (!le a b) = true) → (∀ b ∈ l2, le a b = true) → insD le a (l1 ++ l2) = l1 ++ a :: l2
  | [], [], _, _ => rfl
  | [], y :: ys, _, h => by
    have e := h y List.mem_cons_self
    show (if le a y then a :: y :: ys else y :: insD le a ys) = a :: y :: ys
    rw [if_pos e]
  | x :: l1, l2, h1, h2 => by
    have e := h1 x List.mem_cons_self
    show (if le a x then a :: x :: (l1 ++ l2) else x :: insD le a (l1 ++ l2)) = x :: (l1 ++ a :: l2)
    have e2 : le a x = false := by
      cases q : le a x with
      | false => rfl
      | true =>
        rw [q] at e
        cases e
    rw [if_neg (by rw [e2]; exact Bool.false_ne_true), insD_at (fun b hb => h1 b (List.mem_cons_of_mem _ hb)) h2]
theorem sortD_merge {le : P → P → Bool} (T : PySem.W.TotalLe le) : ∀ xs : List P, xs.mergeSort le = sortD le xs
  | [] => by
    show List.mergeSort [] le = []
    simp
  | x :: xs => by
    have tr : ∀ a b c : P, le a b = true → le b c = true → le a c = true := T.trans
    have tt : ∀ a b : P, (le a b || le b a) = true := fun a b => Bool.or_eq_true_iff.mpr (T.total a b)
    obtain ⟨l1, l2, h1, h2, h3⟩ := List.mergeSort_cons tr tt x xs
    have hp := PySem.W.sort_pairwise T (x :: xs)
    rw [h1, List.pairwise_append] at hp
    have h4 := (List.pairwise_cons.mp hp.2.1).1
    rw [h1]
    show _ = insD le x (sortD le xs)
    rw [← sortD_merge T xs, h2]
    exact (insD_at h3 h4).symm
theorem dataLe_leD : (PySem.W.dataLe false (fun d : P => d)) = leD := by
  rw [PySem.W.dataLe_eq]
  rfl
section
variable {X : Cx} {bo : Option Addr} {H0 : Hp} {cs : Cls'} {W : WX} {F H : Hp}
def RvD (F : Hp) (u : Value) (d : P) : Prop := ∃ x, RelV x u ∧ Rp F x d
theorem each_of : ∀ {ws : List V} {us : List Value} {ds : List P}, Vals ws us → RpA F ws ds → PySem.W.EachIs (RvD F) us ds
  | _, _, _, .nil, .nil => .nil
  | _, _, _, .cons r t, .cons q s => .cons ⟨_, r, q⟩ (each_of t s)
theorem of_each : ∀ {us : List Value} {ds : List P}, PySem.W.EachIs (RvD F) us ds → ∃ ws, Vals ws us ∧ RpA F ws ds
  | _, _, .nil => ⟨[], .nil, .nil⟩
  | _, _, .cons ⟨x, r, q⟩ t => by
    obtain ⟨ws, h1, h2⟩ := of_each t
    exact ⟨x :: ws, .cons r h1, .cons q h2⟩
theorem sortable_of {xs : List P} (h : sortable xs = true) : PySem.W.Sortable xs := by
  unfold sortable at h
  rw [Bool.or_eq_true, List.all_eq_true, List.all_eq_true] at h
  rcases h with h | h
  · refine .inl fun d hd => ?_
    have e := h d hd
    cases d with
    | tuple ys =>
      cases ys with
      | nil => cases e
      | cons y ys => exact ⟨y, ys, rfl⟩
    | _ => cases e
  · refine .inr fun d hd => ?_
    have e := h d hd
    cases d with
    | none => cases e
    | tuple ys => cases e
    | _ => exact ⟨(fun q => nomatch q), (fun _ q => nomatch q)⟩
theorem allAlike_of {xs : List P} (h : allAlike xs = true) : PySem.W.AllAlike xs := by
  unfold allAlike at h
  rw [List.all_eq_true] at h
  intro d hd d' hd'
  exact List.all_eq_true.mp (h d hd) d' hd'
def fSortedLs : List P → Option P
  | [.list xs] => fSortedL xs
  | _ => none
theorem cb_sortedL (hu : X.A.units + 70 < cLine) : CallR X (.builtin "sorted") (rAD bo fSortedLs) := by
  intro pins s σ H vs us Q I r h
  obtain ⟨F, b, ds, z, sF, q, rp, e, k⟩ := h
  unfold fSortedLs at e
  split at e
  · rename_i xs
    unfold fSortedL at e
    split at e
    · rename_i hc
      cases e
      rw [Bool.and_eq_true, Bool.and_eq_true, Bool.and_eq_true] at hc
      obtain ⟨⟨⟨h1, h2⟩, h3⟩, h4⟩ := hc
      have h3 := Nat.le_of_ble_eq_true h3
      rw [List.all_eq_true] at h4
      obtain ⟨v, rfl, rv⟩ := pa1 rp
      obtain ⟨a, ws, rfl, n, ha, ra⟩ := rv
      obtain ⟨its, vals, hl, _⟩ := I.list (SqL.of ha)
      have hr := r
      rw [Vals.ref1 hr]
      have hal := allAlike_of h1
      have ea := each_of vals ra
      have er : PySem.W.EachIs (fun v d => ∃ as, Reads s.heap v d as) its xs := (PySem.W.each_mem ea).mono fun v d ⟨⟨x, g1, g2⟩, hm⟩ => Dp.reads I d x v (g2.dp sF (noD_alike d (hal d hm d hm))) g1
      have mm : xs.map (fun d : P => d) = xs := List.map_id' xs
      have hz : xs.length ≤ sizeLine := by
        rw [← line_eq]
        exact h3
      refine PySem.W.sorted_data (enc := fun d : P => d) (R := RvD F) hl.isList ea er (by rw [mm]; exact allAlike_of h1) (by rw [mm]; exact sortable_of h2) hz (fun d hd => ?_) fun out ho eo => ?_
      · have := Nat.le_of_ble_eq_true (h4 d hd)
        omega
      · rw [dataLe_leD, sortD_merge leD_total] at eo
        obtain ⟨ws', v1, v2⟩ := of_each eo
        obtain ⟨ep, he'⟩ := PyProof.Rows.sortedAll_at s.heap its out.toArray
        have hlen : ws'.length ≤ sizeLine := by
          rw [v1.length, ho]
          exact hz
        have hf := I.hok.fresh (Nat.le_succ s.heap.objs.size)
        obtain ⟨m1, m2⟩ := made_lst sF q hf v2
        exact ⟨.ref _, upd H (s.heap.objs.size + 1) (.lst ws'), I.laid (t' := s.toks) (fun _ _ => PyProof.Rows.sortedAll_old) (Nat.le_succ _) ⟨hlen, out, ep, v1, he'⟩, rfl, k _ _ _ m1 m2⟩
    · cases e
  · cases e
end
end Dv
/-! text D8 -/
set_option Elab.async false
set_option linter.all false
set_option maxRecDepth 100000
set_option maxHeartbeats 4000000
namespace Dv
open PySem PySem.Spec L2

/-! ### calls of the text's defs -/
abbrev lR (fr : Bool) (bo : Option Addr) : Hp → Hp → Hp → V → P → Prop := if fr = true then lF bo else lM bo .n
/-- the promise of a def: what it gives for data -/
def spOf (cs : Cls') (bxd fr : Bool) (np : Nat) (g : List P → Bx → R P) : Sp := fun vs H Q E => vs.length = np ∧ ∃ (bo : Option Addr) (F : Hp) (b : Bx) (ws : List V) (ds : List P),
  (bxd = true → ∃ β, bo = some β ∧ vs = .ref β :: ws) ∧ (bxd = false → bo = none ∧ vs = ws) ∧ Same F H ∧ BoxRep bo F H b ∧ RpA F ws ds ∧ fin bo cs (fun cls dd _ H' => E cls dd H') (lR fr bo) [] F H (g ds b) Q
/-- the def f stands at x, at level k -/
def FnAt (X : Cx) (cs : Cls') (x : Str) (bxd fr : Bool) (np : Nat) (g : List P → Bx → R P) : Prop :=
  ∃ (fa : Addr) (fd : FuncData) (ps : List Str) (k : Nat), X.mg x = some (.ref fa) ∧ PySem.W.keepIn X.K (.ref fa) = true ∧ FnOk X.prog X.w X.K X.mg X.base (L2.CX X.prog X.w) k fa fd ps (spOf cs bxd fr np g) ∧ Binds X.K fd ps [] ∧ Room k X.A
section
variable {X : Cx} {bo : Option Addr} {H0 : Hp} {cs : Cls'} {W : WX}
theorem lR_up {fr : Bool} {b : Bx} {F H F' H' : Hp} {v : V} {d : P} (q : BoxRep bo F H b) (r : lR fr none H F' H' v d) : lR fr bo H F' H' v d := by
  cases fr with
  | false => exact r
  | true =>
    have r : FrR none H F' H' v d := r
    show FrR bo H F' H' v d
    cases d with
    | list ds =>
      obtain ⟨a, vs, e, n, hb, r⟩ := r
      refine ⟨a, vs, e, fun z => ?_, hb, r⟩
      have := (q _ z.symm).2
      rw [hb] at this
      cases this
    | none => exact r
    | bool b => exact r
    | int i => exact r
    | str z => exact r
    | tuple ds => exact r
    | dict ds =>
      obtain ⟨a, vs, e, n, hb, r⟩ := r
      refine ⟨a, vs, e, fun z => ?_, hb, r⟩
      have := (q _ z.symm).2
      rw [hb] at this
      cases this
theorem hRR {fr : Bool} : ∀ (H H1 F' H' : Hp) v d, lR fr bo H1 F' H' v d → (∀ a, H1 a = none → H a = none) → lR fr bo H F' H' v d := by
  cases fr with
  | false => exact fun H H1 F' H' v d h _ => h
  | true => exact hRFf
/-- a result that is fresh, or frozen -/
theorem Snd.of_R {ov fr : Bool} {e : Expr} {g : Env → Bx → R P} (h : PE X e (lift bo H0 cs W (lR fr bo) g)) (hp : plainT e = true) : Snd X bo H0 cs W ov fr e g := by
  cases fr with
  | false => exact Snd.of_n h hp
  | true => exact Snd.of_f h hp
abbrev gCall (φf : List P → Bx → R P) (gs : Env → Bx → R P) : Env → Bx → R P := fun e b => (gs e b).bind fun ds b1 => match φf (argsOf ds) b0 with
    | .ok d _ => .ok d b1
    | .ex c d _ => .ex c d b1
    | .no => .no
theorem none_in {F H F' H' : Hp} {b1 b2 : Bx} {fr : Bool} {σ : L2.St} {r : R P} {Q : VK} (q : BoxRep bo F H b1) (h : fin bo cs W (lR fr bo) σ F H (match r with | .ok d _ => R.ok d b1 | .ex c d _ => .ex c d b1 | .no => .no) Q) :
    fin none cs (fun cls dd _ H' => W cls dd σ H') (lR fr none) [] F H r Q := by
  cases r with
  | ok d b => exact fun v F' H' x z r => h v F' H' x.of_none (x.box q) (lR_up q r)
  | ex c d b => exact fun dd F' H' x z r => h dd F' H' x.of_none (x.box q) r
  | no => exact h.elim
theorem snd_call {ov fr : Bool} {x : Str} {np : Nat} {g : List P → Bx → R P} {e : Expr} {es : List Expr} {p pos : Pos} {gs : Env → Bx → R P} (tk : Takes X W) (F : FnAt X cs x false fr np g) (hg : Gl X x) (ha : PA X (e :: es) (liftA bo H0 cs W .n gs)) (hdb : (x == ("__debug__" : Str)) = false)
    (hp : allPlain (e :: es) = true) (hnp : (e :: es).length = np) (hlen : ∀ en b d b', gs en b = .ok d b' → (argsOf d).length = (e :: es).length) : Snd X bo H0 cs W ov fr (.Call (.Name x p) (e :: es) [] pos) (gCall g gs) := by
  obtain ⟨fa, fd, ps, k, hm, hk, F, hb, hr⟩ := F
  have hp' := hp
  unfold allPlain at hp'
  rw [List.all_cons, Bool.and_eq_true] at hp'
  refine Snd.of_R (PE.imp (pe_callS F hr hg hm hk hb (fun σ => passAt tk σ) ha hdb (starEach_of hp'.1) (noStars hp'.2)) fun σ H Q ⟨en, b, F, p, h⟩ => ⟨en, b, F, p, ?_⟩) rfl
  have hl := hlen en b
  cases q : gs en b with
  | no =>
    dsimp only [gCall] at h
    rw [q] at h
    exact h
  | ex c d b1 =>
    dsimp only [gCall] at h
    rw [q] at h
    exact h
  | ok ds b1 =>
    dsimp only [gCall] at h
    rw [q] at h
    intro vs F1 H1 x z r
    have p1 := p.step x z
    have h1 := fin_step (Rl := lR fr bo) (fun F' H' v d => hRR H H1 F' H' v d) z x h
    have ra := Paired.rpA r
    refine ⟨by rw [ra.length, hl ds b1 q, hnp], none, F1, b0, vs, argsOf ds, (fun w => nomatch w), fun _ => ⟨rfl, rfl⟩, p1.sub, (fun β w => nomatch w), ra, ?_⟩
    exact none_in (F' := F1) (H' := H1) (b2 := b1) p1.box h1
theorem snd_call0 {ov fr : Bool} {x : Str} {g : List P → Bx → R P} {p pos : Pos} (tk : Takes X W) (F : FnAt X cs x false fr 0 g) (hg : Gl X x) (hdb : (x == ("__debug__" : Str)) = false) :
    Snd X bo H0 cs W ov fr (.Call (.Name x p) [] [] pos) (gCall g fun _ b => .ok (.list []) b) := by
  obtain ⟨fa, fd, ps, k, hm, hk, F, hb, hr⟩ := F
  refine Snd.of_R ⟨fun pins s σ H Q I ⟨en, b, F', p, h⟩ => ?_⟩ rfl
  refine wpAny_Call_Name_kw (ld_glob I hg hm ?_ hdb)
  refine PySem.W.callWith_K0 I.kIn hk (run_fnS (us := []) (E := WE W) F hr hb (passAt tk σ) I .nil ?_)
  exact ⟨rfl, none, F', b0, [], [], (fun w => nomatch w), fun _ => ⟨rfl, rfl⟩, p.sub, (fun β w => nomatch w), .nil, none_in (F' := F') (H' := H) (b2 := b) p.box h⟩
/-- f(box, e, ..) -/
theorem snd_callB {ov fr : Bool} {x y : Str} {np : Nat} {g : List P → Bx → R P} {es : List Expr} {p py pos : Pos} {gs : Env → Bx → R P} (tk : Takes X W) (F : FnAt X cs x true fr np g) (hg : Gl X x) (ha : PA X es (liftA bo H0 cs W .n gs)) (hdb : (x == ("__debug__" : Str)) = false)
    (hbo : bo ≠ none) (hN : X.N[0]? = some y) (hv : Vis X.env.scope y) (hd : (y == ("__debug__" : Str)) = false) (hcd : (y == ("__classdict__" : Str)) = false)
    (hp : allPlain es = true) (hnp : es.length + 1 = np) (hlen : ∀ en b d b', gs en b = .ok d b' → (argsOf d).length = es.length) :
    Snd X bo H0 cs W ov fr (.Call (.Name x p) (.Name y py :: es) [] pos) fun e b => (gs e b).bind fun ds b1 => g (argsOf ds) b1 := by
  obtain ⟨fa, fd, ps, k, hm, hk, F, hb, hr⟩ := F
  obtain ⟨β, hβ⟩ := Option.ne_none_iff_exists'.mp hbo
  refine Snd.of_R (PE.imp (pe_callS F hr hg hm hk hb (fun σ => passAt tk σ) (pa_cons (pe_var hN hv hd hcd) ha (by rfl)) hdb (by rfl) (noStars hp)) fun σ H Q ⟨en, b, F, p, h⟩ => ⟨.ref β, p.bs β hβ, en, b, F, p, ?_⟩) rfl
  have hl := hlen en b
  cases q : gs en b with
  | no =>
    dsimp only at h
    rw [q] at h
    exact h
  | ex c d b1 =>
    dsimp only at h
    rw [q] at h
    exact h
  | ok ds b1 =>
    dsimp only at h
    rw [q] at h
    intro vs F1 H1 x z r
    have p1 := p.step x z
    have h1 := fin_step (Rl := lR fr bo) (fun F' H' v d => hRR H H1 F' H' v d) z x h
    have ra := Paired.rpA r
    refine ⟨by rw [List.length_cons, ra.length, hl ds b1 q, hnp], bo, F1, b1, vs, argsOf ds, fun _ => ⟨β, hβ, rfl⟩, (fun w => nomatch w), p1.sub, p1.box, ra, ?_⟩
    have h1 : fin bo cs W (lR fr bo) σ F1 H1 (g (argsOf ds) b1) Q := h1
    cases q2 : g (argsOf ds) b1 with
    | ok d b => rw [q2] at h1; exact h1
    | ex c d b => rw [q2] at h1; exact h1
    | no => rw [q2] at h1; exact h1.elim
theorem boxOf_eq {d : P} {bx : Bx} (h : boxOf d = some bx) : d = .list [.int bx.1, .int bx.2.1, .int bx.2.2] := by
  unfold boxOf at h
  split at h
  · cases h
    rfl
  · cases h
/-- f(a new source, e, ..) -/
theorem snd_callX {ov o1 : Bool} {x : Str} {np : Nat} {g : List P → Bx → R P} {a : Expr} {es : List Expr} {p pos : Pos} {ga gs : Env → Bx → R P} (tk : Takes X W) (F : FnAt X cs x true false np g) (hg : Gl X x) (ha : Snd X bo H0 cs W o1 true a ga) (hs : PA X es (liftA bo H0 cs W .n gs)) (hdb : (x == ("__debug__" : Str)) = false)
    (hst : notStar a = true) (hp : allPlain es = true) (hnp : es.length + 1 = np) (hlen : ∀ en b d b', gs en b = .ok d b' → (argsOf d).length = es.length) :
    Snd X bo H0 cs W ov false (.Call (.Name x p) (a :: es) [] pos) fun e b => (ga e b).bind fun d b1 => match boxOf d with
      | none => .no
      | some bx => (gs e b1).bind fun ds b2 => match g (argsOf ds) bx with
        | .ok d _ => .ok d b2
        | .ex c d _ => .ex c d b2
        | .no => .no := by
  obtain ⟨fa, fd, ps, k, hm, hk, F, hb, hr⟩ := F
  refine Snd.of_n (PE.imp (pe_callS F hr hg hm hk hb (fun σ => passAt tk σ) (pa_cons (ha.f rfl) hs (starEach_of hst)) hdb (starEach_of hst) (noStars hp)) fun σ H Q ⟨en, b, F, p, h⟩ => ⟨en, b, F, p, ?_⟩) rfl
  dsimp only at h
  cases qa : ga en b with
  | no =>
    rw [qa] at h
    exact h
  | ex c d b1 =>
    rw [qa] at h
    exact h
  | ok d b1 =>
    rw [qa] at h
    intro v F1 H1 x1 z1 r1
    have p1 := p.step x1 z1
    cases qb : boxOf d with
    | none =>
      rw [bindR_ok] at h
      rw [qb] at h
      exact h.elim
    | some bx =>
      rw [bindR_ok] at h
      rw [qb] at h
      have := boxOf_eq qb
      subst this
      obtain ⟨α, vs0, rfl, nα, bα, fα, hα, rα⟩ := r1
      have hvs : vs0 = [.int bx.1, .int bx.2.1, .int bx.2.2] := rpA_ints rα (ns := [bx.1, bx.2.1, bx.2.2]) rfl
      subst hvs
      refine ⟨en, b1, F1, p1, ?_⟩
      have hl := hlen en b1
      cases q : gs en b1 with
      | no =>
        dsimp only at h
        rw [q] at h
        exact h.elim
      | ex c d b2 =>
        dsimp only at h
        rw [q] at h
        exact fun dd F' H' y q r => h dd F' H' (x1.trans y q) q r
      | ok ds b2 =>
        dsimp only at h
        rw [q] at h
        intro vs F2 H2 x2 z2 r2
        have p2 := p1.step x2 z2
        have x12 := x1.trans x2 z2
        have ra := Paired.rpA r2
        have fα2 : F2 α = none := x2.un fα hα
        have hα2 : H2 α = _ := x2.keep _ _ nα hα
        refine ⟨by rw [List.length_cons, ra.length, hl ds b2 q, hnp], some α, F2, bx, vs, argsOf ds, fun _ => ⟨α, rfl, rfl⟩, (fun w => nomatch w), p2.sub, (fun β w => by cases w; exact ⟨fα2, hα2⟩), ra, ?_⟩
        rw [bindR_ok] at h
        have hne : ∀ β, bo = some β → β ≠ α := fun β e z => by
          subst z
          rw [(p.box _ e).2] at bα
          cases bα
        have up : ∀ {F' H' : Hp}, Ext (some α) F2 H2 F' H' → Ext bo F H F' H' ∧ BoxRep bo F' H' b2 := fun {F' H'} y => by
          refine ⟨⟨x12.sf.trans y.sf, y.sub, fun a o n w => ?_, fun a o w1 w2 => ?_⟩, fun β e => ?_⟩
          · refine y.keep a o (fun z => ?_) (x12.keep a o n w)
            cases z
            rw [bα] at w
            cases w
          · cases e1 : F2 a with
            | some u => exact x12.new a u w1 e1
            | none =>
              have n2 := y.new a o e1 w2
              cases e2 : H a with
              | none => rfl
              | some u =>
                by_cases z : some a = bo
                · rw [(z2 a z.symm).2] at n2
                  cases n2
                · rw [x12.keep a u z e2] at n2
                  cases n2
          · obtain ⟨u1, u2⟩ := z2 β e
            refine ⟨y.un u1 u2, y.keep _ _ (fun w => ?_) u2⟩
            cases w
            exact hne _ e rfl
        cases q2 : g (argsOf ds) bx with
        | no =>
          rw [q2] at h
          exact h.elim
        | ok d b =>
          rw [q2] at h
          exact fun v F' H' y _ r => h v F' H' (up y).1 (up y).2 r
        | ex c d b =>
          rw [q2] at h
          exact fun dd F' H' y _ r => h dd F' H' (up y).1 (up y).2 r
end
end Dv
/-! text D9 -/
set_option Elab.async false
set_option linter.all false
set_option maxRecDepth 100000
set_option maxHeartbeats 4000000
namespace Dv
open PySem PySem.Spec L2

/-! ### stores of values and of own lists -/
section
variable {bo : Option Addr} {H0 : Hp} {F H : Hp} {σ : L2.St} {e : Env}
theorem set_get {e : Env} {i j : Nat} {x s : Sl} (h : (e.set i x)[j]? = some s) : (i = j ∧ s = x) ∨ (i ≠ j ∧ e[j]? = some s) := by
  by_cases hij : i = j
  · subst hij
    by_cases hl : i < e.length
    · rw [List.getElem?_set_self hl] at h
      exact .inl ⟨rfl, (Option.some.inj h).symm⟩
    · rw [List.getElem?_eq_none (by rw [List.length_set]; omega)] at h
      cases h
  · rw [List.getElem?_set_ne hij] at h
    exact .inr ⟨hij, h⟩
theorem EnvRep.set_o (p : EnvRep bo H0 F H σ e) {i : Nat} {a : Addr} {d : P} (r : Ow bo H0 F H a d) (ne : ∀ (j : Nat) (dj : P), e[j]? = some (Sl.o dj) → σ[j]? ≠ some (some (V.ref a))) : EnvRep bo H0 F H (σ.set i (some (.ref a))) (e.set i (.o d)) := by
  refine ⟨by rw [List.length_set, List.length_set]; exact p.len, fun j s h => ?_, fun j k c dj dk hjk h1 h2 h3 h4 => ?_⟩
  · have hl : j < σ.length := by
      have := (List.getElem?_eq_some_iff.mp h).1
      rw [List.length_set, p.len] at this
      exact this
    rw [getD_set]
    rcases set_get h with ⟨rfl, rfl⟩ | ⟨hij, h⟩
    · rw [if_pos ⟨rfl, hl⟩]
      exact ⟨a, rfl, r⟩
    · rw [if_neg (fun z => hij z.1)]
      exact p.sl j s h
  · rcases set_get h1 with ⟨e1, q1⟩ | ⟨hij, h1⟩
    · rcases set_get h2 with ⟨e2, _⟩ | ⟨hik, h2⟩
      · exact hjk (e1.symm.trans e2)
      · rw [List.getElem?_set_ne hik] at h4
        subst e1
        rw [List.getElem?_set] at h3
        rw [if_pos rfl] at h3
        split at h3
        · cases h3
          exact ne k dk h2 h4
        · cases h3
    · rcases set_get h2 with ⟨e2, _⟩ | ⟨hik, h2⟩
      · rw [List.getElem?_set_ne hij] at h3
        subst e2
        rw [List.getElem?_set] at h4
        rw [if_pos rfl] at h4
        split at h4
        · cases h4
          exact ne j dj h1 h3
        · cases h4
      · rw [List.getElem?_set_ne hij] at h3
        rw [List.getElem?_set_ne hik] at h4
        exact p.ap j k c dj dk hjk h1 h2 h3 h4
/-- the own lists stand in B -/
def Al (B : Hp) (σ : L2.St) (e : Env) : Prop := ∀ (j : Nat) (a : Addr) (d : P), e[j]? = some (.o d) → σ[j]? = some (some (.ref a)) → B a ≠ none
theorem Pre.al' {b : Bx} (p : Pre bo H0 σ H e b F) : Al H σ e := fun j a d h1 h2 h3 => by
  obtain ⟨c, e1, r⟩ := p.env.sl j _ h1
  rw [h2] at e1
  cases e1
  cases d with
  | list ds =>
    obtain ⟨_, _, _, vs, h, _⟩ := r
    rw [h] at h3
    cases h3
  | dict ds =>
    obtain ⟨_, _, _, vs, h, _⟩ := r
    rw [h] at h3
    cases h3
  | _ => exact r.elim
theorem mkSl_false {d : P} : mkSl false d = .v d := rfl
theorem Pre.set_R {B : Hp} {b : Bx} {ow : Bool} {i : Nat} {v : V} {d : P} (p : Pre bo H0 σ H e b F) (al : Al B σ e) (h0B : ∀ a, H0 a ≠ none → B a ≠ none) (r : lR ow bo B F H v d) (h0 : bo ≠ none → i ≠ 0) :
    Pre bo H0 (σ.set i (some v)) H (e.set i (mkSl ow d)) b F := by
  cases ow with
  | false => exact p.set_v r h0
  | true =>
    have r : FrR bo B F H v d := r
    cases d with
    | list ds =>
      obtain ⟨a, vs, rfl, n, hb, hf, hh, ra⟩ := r
      refine ⟨p.sub, p.env.set_o (d := .list ds) ⟨n, ?_, hf, vs, hh, ra⟩ (fun j dj h1 h2 => al j a dj h1 h2 hb), p.box, fun β hb => by rw [List.getElem?_set_ne (h0 (by rw [hb]; exact (fun z => nomatch z)))]; exact p.bs β hb, p.al⟩
      cases q : H0 a with
      | none => rfl
      | some u => exact absurd hb (h0B a (by rw [q]; exact (fun z => nomatch z)))
    | none => exact p.set_v r h0
    | bool b => exact p.set_v r h0
    | int i => exact p.set_v r h0
    | str z => exact p.set_v r h0
    | tuple ds => exact p.set_v r h0
    | dict ds =>
      obtain ⟨a, vs, rfl, n, hb, hf, hh, ra⟩ := r
      refine ⟨p.sub, p.env.set_o (d := .dict ds) ⟨n, ?_, hf, vs, hh, ra⟩ (fun j dj h1 h2 => al j a dj h1 h2 hb), p.box, fun β hb => by rw [List.getElem?_set_ne (h0 (by rw [hb]; exact (fun z => nomatch z)))]; exact p.bs β hb, p.al⟩
      cases q : H0 a with
      | none => rfl
      | some u => exact absurd hb (h0B a (by rw [q]; exact (fun z => nomatch z)))
/-- the object that a container of data stands for -/
def AtO (F : Hp) (o : HO) : P → Prop
  | .list ds => ∃ vs, o = .lst vs ∧ RpA F vs ds
  | .dict ds => DcO F o ds
  | _ => False
theorem Ow.parts {a : Addr} {d : P} (o : Ow bo H0 F H a d) : some a ≠ bo ∧ H0 a = none ∧ F a = none ∧ ∃ u, H a = some u ∧ AtO F u d := by
  cases d with
  | list ds =>
    obtain ⟨n, h0, hf, vs, hh, ra⟩ := o
    exact ⟨n, h0, hf, _, hh, vs, rfl, ra⟩
  | dict ds => exact o
  | _ => exact o.elim
theorem Ow.of_at {a : Addr} {u : HO} {d : P} (n : some a ≠ bo) (h0 : H0 a = none) (hf : F a = none) (h : H a = some u) (r : AtO F u d) : Ow bo H0 F H a d := by
  cases d with
  | list ds =>
    obtain ⟨vs, rfl, ra⟩ := r
    exact ⟨n, h0, hf, vs, h, ra⟩
  | dict ds => exact ⟨n, h0, hf, u, h, r⟩
  | _ => exact r.elim
theorem AtO.mono {F' : Hp} (s : Same F F') {u : HO} {d : P} (r : AtO F u d) : AtO F' u d := by
  cases d with
  | list ds =>
    obtain ⟨vs, rfl, ra⟩ := r
    exact ⟨vs, rfl, ra.mono s⟩
  | dict ds => exact DcO.mono s r
  | _ => exact r.elim
theorem AtO.rp {a : Addr} {u : HO} {d : P} (h : F a = some u) (r : AtO F u d) : Rp F (.ref a) d := by
  cases d with
  | list ds =>
    obtain ⟨vs, rfl, ra⟩ := r
    exact .lst h ra
  | dict ds => exact .dct h r
  | _ => exact r.elim
theorem Pre.set_u {F0 : Hp} {b : Bx} {i : Nat} {a : Addr} {d : P} {w : HO} {es : P} (p : Pre bo H0 σ H e b F) (x : Ext bo F0 H0 F H) (hg : e[i]? = some (.o d)) (hs : σ[i]? = some (some (.ref a))) (r : AtO F w es) :
    Pre bo H0 σ (upd H a w) (e.set i (.o es)) b F ∧ Ext bo F0 H0 F (upd H a w) := by
  obtain ⟨c, e1, o⟩ := p.env.sl i _ hg
  rw [hs] at e1
  cases e1
  obtain ⟨n, h0, hf, hsome⟩ := Ow.parts o
  have sub : Same F (upd H a w) := fun c u hc => by
    rw [upd_ne (ne_of_none hc hf)]
    exact p.sub _ _ hc
  refine ⟨⟨sub, ⟨by rw [List.length_set]; exact p.env.len, fun j s h => ?_, fun j k c dj dk hjk h1 h2 => ?_⟩, fun β hb => ?_, p.bs, fun c hc => ?_⟩, ⟨x.sf, sub, fun c u n2 hc => ?_, x.new⟩⟩
  · rcases set_get h with ⟨rfl, rfl⟩ | ⟨hij, h⟩
    · rw [hs]
      exact ⟨a, rfl, Ow.of_at n h0 hf upd_same r⟩
    · have q := p.env.sl j s h
      cases s with
      | no => trivial
      | v d => exact q
      | o d =>
        obtain ⟨c, e1, o⟩ := q
        refine ⟨c, e1, ?_⟩
        have hc : c ≠ a := fun z => by
          subst z
          have hsj : σ[j]? = some (some (.ref c)) := by
            cases w : σ[j]? with
            | none => rw [w] at e1; cases e1
            | some u => rw [w] at e1; exact congrArg some e1
          exact p.env.ap i j c _ _ hij hg h hs hsj
        cases d with
        | list ds' =>
          obtain ⟨n', h0', hf', vs', hh', ra'⟩ := o
          exact ⟨n', h0', hf', vs', by rw [upd_ne hc]; exact hh', ra'⟩
        | dict ds' =>
          obtain ⟨n', h0', hf', vs', hh', ra'⟩ := o
          exact ⟨n', h0', hf', vs', by rw [upd_ne hc]; exact hh', ra'⟩
        | _ => exact o.elim
  · have w1 : ∃ dj', e[j]? = some (.o dj') := by
      rcases set_get h1 with ⟨rfl, _⟩ | ⟨_, h1⟩
      · exact ⟨_, hg⟩
      · exact ⟨_, h1⟩
    have w2 : ∃ dk', e[k]? = some (.o dk') := by
      rcases set_get h2 with ⟨rfl, _⟩ | ⟨_, h2⟩
      · exact ⟨_, hg⟩
      · exact ⟨_, h2⟩
    obtain ⟨_, w1⟩ := w1
    obtain ⟨_, w2⟩ := w2
    exact p.env.ap j k c _ _ hjk w1 w2
  · obtain ⟨q1, q2⟩ := p.box β hb
    refine ⟨q1, ?_⟩
    rw [upd_ne (fun z => n (by rw [← z]; exact hb.symm))]
    exact q2
  · by_cases z : c = a
    · rw [z, upd_same]
      exact (fun z => nomatch z)
    · rw [upd_ne z]
      exact p.al c hc
  · have z : c ≠ a := fun z => by
      rw [z, h0] at hc
      cases hc
    rw [upd_ne z]
    exact x.keep c u n2 hc
theorem Pre.set_w {F0 : Hp} {b : Bx} {i : Nat} {a : Addr} {d : P} {ws : List V} {es : List P} (p : Pre bo H0 σ H e b F) (x : Ext bo F0 H0 F H) (hg : e[i]? = some (.o d)) (hs : σ[i]? = some (some (.ref a))) (r : RpA F ws es) :
    Pre bo H0 σ (upd H a (.lst ws)) (e.set i (.o (.list es))) b F ∧ Ext bo F0 H0 F (upd H a (.lst ws)) := p.set_u (es := .list es) x hg hs ⟨ws, rfl, r⟩
theorem getO_get {i : Nat} {d : P} (h : getO e i = some d) : e[i]? = some (.o d) := by
  unfold getO at h
  split at h
  · rename_i d' q
    rw [q]
    cases h
    rfl
  · cases h
/-- own lists are frozen -/
theorem upd_eta {H : Hp} {a : Addr} {u : HO} (h : H a = some u) : upd H a u = H := by
  funext c
  by_cases z : c = a
  · rw [z, upd_same, h]
  · rw [upd_ne z]
theorem Pre.frzU {F0 : Hp} {b : Bx} {i : Nat} {a : Addr} {d d' : P} {u1 : HO} (p : Pre bo H0 σ H e b F) (x : Ext bo F0 H0 F H) (hg : e[i]? = some (.o d)) (hs : σ[i]? = some (some (.ref a))) (o : Ow bo H0 F H a d) (ra : AtO F u1 d') :
    Pre bo H0 σ (upd H a u1) (e.set i (.v d')) b (upd F a u1) ∧ Ext bo F0 H0 (upd F a u1) (upd H a u1) ∧ Same F (upd F a u1) := by
  obtain ⟨n, h0, hf, u0, hh, _⟩ := Ow.parts o
  have s : Same F (upd F a u1) := fun c u hc => by
    rw [upd_ne (ne_of_none hc hf)]
    exact hc
  have sub : Same (upd F a u1) (upd H a u1) := fun c u hc => by
    by_cases z : c = a
    · rw [z, upd_same] at hc
      cases hc
      rw [z, upd_same]
    · rw [upd_ne z] at hc ⊢
      exact p.sub _ _ hc
  have hr : Rp (upd F a u1) (.ref a) d' := AtO.rp upd_same (ra.mono s)
  refine ⟨⟨sub, ⟨by rw [List.length_set]; exact p.env.len, fun j s' h => ?_, fun j k c dj dk hjk h1 h2 => ?_⟩, fun β hb => ?_, p.bs, fun c hc => ?_⟩, ⟨x.sf.trans s, sub, fun c u n2 hc => ?_, fun c u h1 h2 => ?_⟩, s⟩
  · rcases set_get h with ⟨rfl, rfl⟩ | ⟨hij, h⟩
    · rw [hs]
      exact ⟨_, rfl, hr⟩
    · have w := p.env.sl j s' h
      cases s' with
      | no => trivial
      | v d =>
        obtain ⟨u, e2, r⟩ := w
        exact ⟨u, e2, r.mono s⟩
      | o d =>
        obtain ⟨c, e2, o⟩ := w
        have hc : c ≠ a := fun z => by
          subst z
          have hsj : σ[j]? = some (some (.ref c)) := by
            cases w : σ[j]? with
            | none => rw [w] at e2; cases e2
            | some u => rw [w] at e2; exact congrArg some e2
          exact p.env.ap i j c _ _ hij hg h hs hsj
        refine ⟨c, e2, ?_⟩
        obtain ⟨n', h0', hf', u', hh', ra'⟩ := Ow.parts o
        exact Ow.of_at n' h0' (by rw [upd_ne hc]; exact hf') (by rw [upd_ne hc]; exact hh') (ra'.mono s)
  · rcases set_get h1 with ⟨_, q1⟩ | ⟨_, h1⟩
    · cases q1
    · rcases set_get h2 with ⟨_, q2⟩ | ⟨_, h2⟩
      · cases q2
      · exact p.env.ap j k c _ _ hjk h1 h2
  · obtain ⟨q1, q2⟩ := p.box β hb
    have z : β ≠ a := fun z => n (by rw [← z]; exact hb.symm)
    rw [upd_ne z, upd_ne z]
    exact ⟨q1, q2⟩
  · by_cases z : c = a
    · rw [z, upd_same]
      exact (fun z => nomatch z)
    · rw [upd_ne z]
      exact p.al c hc
  · have z : c ≠ a := fun z => by
      rw [z, h0] at hc
      cases hc
    rw [upd_ne z]
    exact x.keep c u n2 hc
  · by_cases z : c = a
    · rw [z]
      exact h0
    · rw [upd_ne z] at h2
      exact x.new _ _ h1 h2
theorem dlock_list {ds : List P} : dlockD (.list ds) = .list ds := rfl
/-- a dict's object, locked -/
theorem DcO.lock {u : HO} {ds : List (P × P)} (r : DcO F u ds) : (dlockD (.dict ds) = .dict ds) ∨ ((∃ kvs, u = .dK kvs) ∨ ∃ kvs, u = .dT kvs) ∧ ∀ od, ∃ ds', dlockD (.dict ds) = .dict ds' ∧ DcO F (.frz od u) ds' := by
  cases r with
  | k r =>
    rename_i kvs
    by_cases h : dLk ds = true
    · left
      show (if dLk ds then PyData.dict ds else .dict (lMark :: ds)) = _
      rw [if_pos h]
    · right
      refine ⟨.inl ⟨_, rfl⟩, fun od => ⟨lMark :: ds, ?_, .kl r⟩⟩
      show (if dLk ds then PyData.dict ds else .dict (lMark :: ds)) = _
      rw [if_neg h]
  | t r => exact .inr ⟨.inr ⟨_, rfl⟩, fun od => ⟨_, rfl, .tl r⟩⟩
  | kl r => exact .inl rfl
  | tl r => exact .inl rfl
end

/-! ### statements -/
section
variable {X : Cx} {bo : Option Addr} {F0 H0 : Hp} {cs : Cls'} {W : WX} {fr : Bool}
def finS (bo : Option Addr) (F0 H0 : Hp) (cs : Cls') (W : WX) (fr : Bool) (D : Ends) (Fs : Hp) (o : Out) : Prop :=
  match o with
  | .nx e b => ∀ σ F H, Pre bo H0 σ H e b F → Ext bo F0 H0 F H → Same Fs F → D.nx σ H
  | .rt d b => ∀ v F H, Ext bo F0 H0 F H → BoxRep bo F H b → lR fr bo H0 F H v d → D.rt v H
  | .xx e c d b => ∀ σ dd F H, Pre bo H0 σ H e b F → Ext bo F0 H0 F H → ExcRep cs F H dd c d → W (.ref (cs.ad c)) dd σ H
  | .no => False
def liftS (bo : Option Addr) (F0 H0 : Hp) (cs : Cls') (W : WX) (fr : Bool) (g : Env → Bx → Out) : TS := fun D σ H => ∃ e b F, Pre bo H0 σ H e b F ∧ Ext bo F0 H0 F H ∧ finS bo F0 H0 cs W fr D F (g e b)
theorem finS_up {D : Ends} {F F1 : Hp} {o : Out} (s : Same F F1) (h : finS bo F0 H0 cs W fr D F o) : finS bo F0 H0 cs W fr D F1 o := by
  cases o with
  | nx e b => exact fun σ F' H p x z => h σ F' H p x (s.trans z)
  | rt d b => exact h
  | xx e c d b => exact h
  | no => exact h
/-- an expression within a statement -/
theorem fin_out {Rl : Hp → Hp → Hp → V → P → Prop} {r : R P} {k : P → Bx → Out} {σ : L2.St} {H F : Hp} {e : Env} {b : Bx} {D : Ends} {Q : VK} (p : Pre bo H0 σ H e b F) (x0 : Ext bo F0 H0 F H) (h : finS bo F0 H0 cs W fr D F (r.out e k))
    (hk : ∀ d b1 v F1 H1, Pre bo H0 σ H1 e b1 F1 → Ext bo F H F1 H1 → Ext bo F0 H0 F1 H1 → Rl H F1 H1 v d → finS bo F0 H0 cs W fr D F1 (k d b1) → Q v H1) : fin bo cs W Rl σ F H r Q := by
  cases r with
  | ok d b1 => exact fun v F1 H1 x z r => hk d b1 v F1 H1 (p.step x z) x (x0.trans x z) r (finS_up x.sf h)
  | ex c d b1 => exact fun dd F1 H1 x z r => h σ dd F1 H1 (p.step x z) (x0.trans x z) r
  | no => exact h.elim
theorem finT_out {r : R Bool} {k : Bool → Bx → Out} {σ : L2.St} {H F : Hp} {e : Env} {b : Bx} {D : Ends} {Q : Bool → Hp → Prop} (p : Pre bo H0 σ H e b F) (x0 : Ext bo F0 H0 F H) (h : finS bo F0 H0 cs W fr D F (r.out e k))
    (hk : ∀ d b1 F1 H1, Pre bo H0 σ H1 e b1 F1 → Ext bo F0 H0 F1 H1 → Same F F1 → finS bo F0 H0 cs W fr D F1 (k d b1) → Q d H1) : finT bo cs W σ F H r Q := by
  cases r with
  | ok d b1 => exact fun F1 H1 x z => hk d b1 F1 H1 (p.step x z) (x0.trans x z) x.sf (finS_up x.sf h)
  | ex c d b1 => exact fun dd F1 H1 x z r => h σ dd F1 H1 (p.step x z) (x0.trans x z) r
  | no => exact h.elim
theorem sS_nil : PSs X [] (liftS bo F0 H0 cs W fr fun e b => .nx e b) := PSs.imp pss_nil fun D σ H ⟨e, b, F, p, x, h⟩ => h σ F H p x (Same.refl _)
theorem sS_cons {st : Stmt} {rest : List Stmt} {g1 g2 : Env → Bx → Out} (h1 : PS X st (liftS bo F0 H0 cs W fr g1)) (h2 : PSs X rest (liftS bo F0 H0 cs W fr g2)) : PSs X (st :: rest) (liftS bo F0 H0 cs W fr fun e b => (g1 e b).bind g2) :=
  PSs.imp (pss_cons h1 h2) fun D σ H ⟨e, b, F, p, x, h⟩ => by
    refine ⟨e, b, F, p, x, ?_⟩
    dsimp only at h
    cases q : g1 e b with
    | nx e1 b1 =>
      rw [q] at h
      exact fun σ' F' H' p' x' s' => ⟨e1, b1, F', p', x', finS_up s' h⟩
    | rt d b1 => rw [q] at h; exact h
    | xx e1 c d b1 => rw [q] at h; exact h
    | no => rw [q] at h; exact h
theorem sS_one {st : Stmt} {g1 : Env → Bx → Out} (h1 : PS X st (liftS bo F0 H0 cs W fr g1)) : PSs X [st] (liftS bo F0 H0 cs W fr g1) := pss_one h1
theorem sS_frz {sts : List Stmt} {i : Nat} {g : Env → Bx → Out} (h2 : PSs X sts (liftS bo F0 H0 cs W fr g)) : PSs X sts (liftS bo F0 H0 cs W fr fun e b => (Out.nx (freeze e [i]) b).bind g) := by
  refine ⟨fun pins s σ H D I ⟨e, b, F, p, x, h⟩ => ?_⟩
  have h : finS bo F0 H0 cs W fr D F (g (match getO e i with | some d => e.set i (.v (dlockD d)) | none => e) b) := h
  cases q : getO e i with
  | none =>
    rw [q] at h
    exact h2.run pins s σ H D I ⟨e, b, F, p, x, h⟩
  | some d =>
    rw [q] at h
    have h : finS bo F0 H0 cs W fr D F (g (e.set i (.v (dlockD d))) b) := h
    have hg := getO_get q
    obtain ⟨a, e1, o⟩ := p.env.sl i _ hg
    have hs : σ[i]? = some (some (.ref a)) := by
      cases w : σ[i]? with
      | none => rw [w] at e1; cases e1
      | some u => rw [w] at e1; exact congrArg some e1
    obtain ⟨n, h0, hf, u0, hh, ra⟩ := Ow.parts o
    have same : dlockD d = d → wpAny (model X.prog X.w) X.A (execs sts X.env) (SP X pins D) X.xe s := fun hd => by
      rw [hd] at h
      obtain ⟨p', x', s'⟩ := p.frzU (u1 := u0) (d' := d) x hg hs o ra
      rw [upd_eta hh] at p' x'
      exact h2.run pins s σ H D I ⟨_, b, _, p', x', finS_up s' h⟩
    cases d with
    | dict ds =>
      rcases DcO.lock (F := F) (show DcO F u0 ds from ra) with hd | ⟨mu, lk⟩
      · exact same hd
      · obtain ⟨od, I'⟩ := I.lock hh (by
          rcases mu with ⟨_, rfl⟩ | ⟨_, rfl⟩
          · exact True.intro
          · exact True.intro)
        obtain ⟨ds', e2, r'⟩ := lk od
        rw [e2] at h
        obtain ⟨p', x', s'⟩ := p.frzU (u1 := .frz od u0) (d' := .dict ds') x hg hs o r'
        exact h2.run pins s σ _ D I' ⟨_, b, _, p', x', finS_up s' h⟩
    | list ds => exact same rfl
    | _ => exact same rfl
theorem Snd.lR {ov fe ow : Bool} {e : Expr} {g : Env → Bx → R P} (h : Snd X bo H0 cs W ov fe e g) (h1 : ow = true → fe = true) (h2 : ow = false → ov = false) : PE X e (lift bo H0 cs W (lR ow bo) g) := by
  cases ow with
  | false => exact h.n (h2 rfl)
  | true => exact h.f (h1 rfl)
theorem Pre.h0 {σ : L2.St} {H F : Hp} {e : Env} {b : Bx} (p : Pre bo H0 σ H e b F) : ∀ a, H0 a ≠ none → H a ≠ none := p.al
theorem setA {i : Nat} {ow : Bool} {te : TE} {g : Env → Bx → R P} {st : Stmt} (hA : PS X st (tAsg te (gName i))) (hi : ∀ σ H Q, lift bo H0 cs W (lR ow bo) g σ H Q → te σ H Q) (h0 : bo ≠ none → i ≠ 0) :
    PS X st (liftS bo F0 H0 cs W fr fun e b => (g e b).out e fun d b1 => .nx (e.set i (mkSl ow d)) b1) :=
  PS.imp hA fun D σ H ⟨e, b, F, p, x, h⟩ => hi _ _ _ ⟨e, b, F, p, fin_out p x h fun d b1 v F1 H1 p1 x1 x01 r h1 => h1 _ F1 H1 (p1.set_R p.al' p.al r h0) x01 (Same.refl _)⟩
theorem sS_set {i : Nat} {x : Str} {e : Expr} {ov fe ow : Bool} {g : Env → Bx → R P} {pos pos' : Pos} (hN : X.N.Nodup) (hi : X.N[i]? = some x) (hx : X.env.scope.names.lookup x = some .local) (he : Snd X bo H0 cs W ov fe e g) (h1 : ow = true → fe = true) (h2 : ow = false → ov = false)
    (hs : swapsWith e (some (.Name x pos')) pos.line X.env = pure false) (h0 : bo ≠ none → i ≠ 0) : PS X (.Assign [.Name x pos'] e pos) (liftS bo F0 H0 cs W fr fun e b => (g e b).out e fun d b1 => .nx (e.set i (mkSl ow d)) b1) :=
  setA (ps_set hN hi (.inl hx) (he.lR h1 h2) hs (.inr hx)) (fun _ _ _ h => h) h0
theorem sS_sett {tg e : Expr} {tgD : Tg} {fe : Bool} {g : Env → Bx → R P} {pos : Pos} (he : Snd X bo H0 cs W false fe e g) (hg : PG X tg (liftG bo H0 tgD)) (hs : swapsWithSole [tg] e pos.line X.env = pure false) (hw : swappedStores [tg] e X.env = pure none) (h1 : notStar tg = true) :
    PS X (.Assign [tg] e pos) (liftS bo F0 H0 cs W fr fun e b => (g e b).out e fun d b1 => Out.ofO (asgn tgD d e) b1) :=
  PS.imp (ps_asg (he.n rfl) hg hs hw (by rw [assignEach_of h1] <;> rfl)) fun D σ H ⟨e, b, F, p, x, h⟩ => ⟨e, b, F, p, fin_out p x h fun d b1 v F1 H1 p1 x1 x01 r h1 => by
    cases q : asgn tgD d e with
    | none =>
      rw [q] at h1
      exact h1.elim
    | some e' =>
      rw [q] at h1
      exact ⟨e, b1, F1, d, e', p1, r, q, fun σ' p' _ _ => h1 σ' F1 H1 p' x01 (Same.refl _)⟩⟩
theorem sS_drop {e : Expr} {ov fe : Bool} {g : Env → Bx → R P} {pos : Pos} (he : Snd X bo H0 cs W ov fe e g) (hs : swapsWith e none pos.line X.env = pure false) : PS X (.Expr e pos) (liftS bo F0 H0 cs W fr fun e b => (g e b).out e fun _ b1 => .nx e b1) :=
  PS.imp (ps_expr he.r hs) fun D σ H ⟨e, b, F, p, x, h⟩ => ⟨e, b, F, p, fin_out p x h fun d b1 v F1 H1 p1 x1 x01 r h1 => h1 σ F1 H1 p1 x01 (Same.refl _)⟩
theorem sS_pass {pos : Pos} : PS X (.Pass pos) (liftS bo F0 H0 cs W fr fun e b => .nx e b) := PS.imp ps_pass fun D σ H ⟨e, b, F, p, x, h⟩ => h σ F H p x (Same.refl _)
/-! two and three at once -/
theorem sS_par2 {i j : Nat} {x y : Str} {a b : Expr} {px py pt pos : Pos} {kt k2 pt2} {v1 f1 o1 v2 f2 o2 : Bool} {ga gb : Env → Bx → R P} (hc : X.calm = true) (hN : X.N.Nodup) (hi : X.N[i]? = some x) (hj : X.N[j]? = some y) (hij : i ≠ j)
    (hx : X.env.scope.names.lookup x = some .local) (hy : X.env.scope.names.lookup y = some .local) (ha : Snd X bo H0 cs W v1 f1 a ga) (hb : Snd X bo H0 cs W v2 f2 b gb) (a1 : o1 = true → f1 = true) (a2 : o1 = false → v1 = false) (b1 : o2 = true → f2 = true) (b2 : o2 = false → v2 = false)
    (sa : notStar a = true) (sb : notStar b = true) (hw : swappedStores [.Tuple [.Name x px, .Name y py] kt pt] (.Tuple [a, b] k2 pt2) X.env = pure (some [x, y])) (h0 : bo ≠ none → i ≠ 0 ∧ j ≠ 0) :
    PS X (.Assign [.Tuple [.Name x px, .Name y py] kt pt] (.Tuple [a, b] k2 pt2) pos) (liftS bo F0 H0 cs W fr fun e bx => (ga e bx).out e fun d b1 => (gb e b1).out e fun d2 b2 => .nx ((e.set i (mkSl o1 d)).set j (mkSl o2 d2)) b2) :=
  PS.imp (ps_par hc hN hi hj hij hx hy (pa_cons (ha.lR a1 a2) (pa_cons (hb.lR b1 b2) pa_nil (starEach_of sb)) (starEach_of sa)) hw rfl) fun D σ H ⟨e, bx, F, p, x, h⟩ =>
    ⟨e, bx, F, p, fin_out p x h fun d b1 v F1 H1 p1 x1 x01 r1 h1 => ⟨e, b1, F1, p1, fin_out p1 x01 h1 fun d2 b2 w F2 H2 p2 x2 x02 r2 h2 => ⟨v, w, rfl, h2 _ F2 H2 (by
      have q1 : Pre bo H0 (σ.set i (some v)) H1 (e.set i (mkSl o1 d)) b1 F1 := p1.set_R p.al' p.al r1 fun z => (h0 z).1
      exact (q1.step x2 p2.box).set_R q1.al' q1.al r2 fun z => (h0 z).2) x02 (Same.refl _)⟩⟩⟩
theorem sS_par3 {i j l : Nat} {x y z : Str} {a b c : Expr} {px py pz pt pos : Pos} {kt k2 pt2} {v1 f1 o1 v2 f2 o2 v3 f3 o3 : Bool} {ga gb gc : Env → Bx → R P} (hc : X.calm = true) (hN : X.N.Nodup) (hi : X.N[i]? = some x) (hj : X.N[j]? = some y) (hl : X.N[l]? = some z) (hij : i ≠ j) (hil : i ≠ l) (hjl : j ≠ l)
    (hx : X.env.scope.names.lookup x = some .local) (hy : X.env.scope.names.lookup y = some .local) (hz : X.env.scope.names.lookup z = some .local) (ha : Snd X bo H0 cs W v1 f1 a ga) (hb : Snd X bo H0 cs W v2 f2 b gb) (hcc : Snd X bo H0 cs W v3 f3 c gc)
    (a1 : o1 = true → f1 = true) (a2 : o1 = false → v1 = false) (b1 : o2 = true → f2 = true) (b2 : o2 = false → v2 = false) (c1 : o3 = true → f3 = true) (c2 : o3 = false → v3 = false)
    (sa : notStar a = true) (sb : notStar b = true) (sc : notStar c = true) (hw : swappedStores [.Tuple [.Name x px, .Name y py, .Name z pz] kt pt] (.Tuple [a, b, c] k2 pt2) X.env = pure (some [x, y, z])) (h0 : bo ≠ none → i ≠ 0 ∧ j ≠ 0 ∧ l ≠ 0) :
    PS X (.Assign [.Tuple [.Name x px, .Name y py, .Name z pz] kt pt] (.Tuple [a, b, c] k2 pt2) pos) (liftS bo F0 H0 cs W fr fun e bx => (ga e bx).out e fun d b1 => (gb e b1).out e fun d2 b2 => (gc e b2).out e fun d3 b3 => .nx (((e.set i (mkSl o1 d)).set j (mkSl o2 d2)).set l (mkSl o3 d3)) b3) :=
  PS.imp (ps_par3 hc hN hi hj hl hij hil hjl hx hy hz (pa_cons (ha.lR a1 a2) (pa_cons (hb.lR b1 b2) (pa_cons (hcc.lR c1 c2) pa_nil (starEach_of sc)) (starEach_of sb)) (starEach_of sa)) hw rfl) fun D σ H ⟨e, bx, F, p, x, h⟩ =>
    ⟨e, bx, F, p, fin_out p x h fun d b1 v F1 H1 p1 x1 x01 r1 h1 => ⟨e, b1, F1, p1, fin_out p1 x01 h1 fun d2 b2 w F2 H2 p2 x2 x02 r2 h2 => ⟨e, b2, F2, p2, fin_out p2 x02 h2 fun d3 b3 u F3 H3 p3 x3 x03 r3 h3 => ⟨v, w, u, rfl, h3 _ F3 H3 (by
      have q1 : Pre bo H0 (σ.set i (some v)) H1 (e.set i (mkSl o1 d)) b1 F1 := p1.set_R p.al' p.al r1 fun z => (h0 z).1
      have q2 : Pre bo H0 ((σ.set i (some v)).set j (some w)) H2 ((e.set i (mkSl o1 d)).set j (mkSl o2 d2)) b2 F2 := (q1.step x2 p2.box).set_R q1.al' q1.al r2 fun z => (h0 z).2.1
      exact (q2.step x3 p3.box).set_R q2.al' q2.al r3 fun z => (h0 z).2.2) x03 (Same.refl _)⟩⟩⟩⟩
/-! an own list grows, an item is put -/
theorem own_var {σ : L2.St} {H F : Hp} {e : Env} {b : Bx} (p : Pre bo H0 σ H e b F) {i : Nat} {xs : List P} (h : getO e i = some (.list xs)) : ∃ a ds vs, PyData.list xs = .list ds ∧ e[i]? = some (.o (.list ds)) ∧ σ[i]? = some (some (.ref a)) ∧ H a = some (.lst vs) ∧ RpA F vs ds := by
  obtain ⟨a, e1, o⟩ := own_get p.env h
  obtain ⟨_, _, _, vs, hh, ra⟩ := o
  exact ⟨a, xs, vs, rfl, getO_get h, e1, hh, ra⟩
/-- an own dict -/
theorem own_dct {σ : L2.St} {H F : Hp} {e : Env} {b : Bx} (p : Pre bo H0 σ H e b F) {i : Nat} {xs : List (P × P)} (h : getO e i = some (.dict xs)) : ∃ a u, e[i]? = some (.o (.dict xs)) ∧ σ[i]? = some (some (.ref a)) ∧ H a = some u ∧ DcO F u xs := by
  obtain ⟨a, e1, o⟩ := own_get p.env h
  obtain ⟨_, _, _, u, hh, ra⟩ := o
  exact ⟨a, u, getO_get h, e1, hh, ra⟩
/-- the names of slots -/
structure NmOk (X : Cx) (i : Nat) (x : Str) : Prop where
  hN : X.N[i]? = some x
  hv : Vis X.env.scope x
  hd : (x == ("__debug__" : Str)) = false
  hcd : (x == ("__classdict__" : Str)) = false
theorem sS_app {i : Nat} {x : Str} {e : Expr} {fe : Bool} {g : Env → Bx → R P} {px pa pc pos : Pos} (n : NmOk X i x) (he : Snd X bo H0 cs W false fe e g) (hst : notStar e = true) (hl : (pa.endLine == pc.line) = true) :
    PS X (.Expr (.Call (.Attribute (.Name x px) "append" pa) [e] [] pc) pos) (liftS bo F0 H0 cs W fr fun en b => match getO en i with
      | some (.list xs) => (g en b).out en fun d b1 => if xs.length < line then .nx (en.set i (.o (.list (xs ++ [d])))) b1 else .no
      | _ => .no) :=
  PS.imp (ps_expr (pe_bm PySem.F.plainAttrs_list PySem.F.slot_list_append PySem.F.type_list_append mt_append (pe_var n.hN n.hv n.hd n.hcd) (pa_cons (he.n rfl) pa_nil (starEach_of hst)) (by rfl) (by rw [starEach_of hst] <;> rfl) hl (starEach_of hst) (by rfl)) (by rfl)) fun D σ H ⟨en, b, F, p, x, h⟩ => by
    dsimp only at h
    split at h
    · rename_i xs qo
      obtain ⟨a, ds, vs, e1, hg, hs, hh, ra⟩ := own_var p qo
      cases e1
      refine ⟨.ref a, hs, .inl ⟨rfl, vs, SqL.of hh⟩, en, b, F, p, fin_out p x h fun d b1 v F1 H1 p1 x1 x01 r h1 => ?_⟩
      split at h1
      · rename_i hlt
        obtain ⟨a', ds', vs', e', hg', hs', hh', ra'⟩ := own_var p1 qo
        cases e'
        rw [hs] at hs'
        cases hs'
        obtain ⟨w1, w2⟩ := p1.set_w x01 hg hs (ra'.append (.cons r .nil))
        exact ⟨a, vs', v, rfl, rfl, hh', by rw [ra'.length, ← line_eq]; exact hlt, h1 _ _ _ w1 w2 (Same.refl _)⟩
      · exact h1.elim
    · exact h.elim
theorem sS_ext {i : Nat} {x : Str} {e : Expr} {ov fe : Bool} {g : Env → Bx → R P} {px pa pc pos : Pos} (n : NmOk X i x) (he : Snd X bo H0 cs W ov fe e g) (hst : notStar e = true) (hl : (pa.endLine == pc.line) = true) :
    PS X (.Expr (.Call (.Attribute (.Name x px) "extend" pa) [e] [] pc) pos) (liftS bo F0 H0 cs W fr fun en b => match getO en i with
      | some (.list xs) => (g en b).out en fun d b1 => match d with
        | .list ys => if xs.length + ys.length ≤ line then .nx (en.set i (.o (.list (xs ++ ys)))) b1 else .no
        | _ => .no
      | _ => .no) :=
  PS.imp (ps_expr (pe_bm PySem.F.plainAttrs_list PySem.F.slot_list_extend PySem.F.type_list_extend mt_extend (pe_var n.hN n.hv n.hd n.hcd) (pa_cons he.r pa_nil (starEach_of hst)) (by rfl) (by rw [starEach_of hst] <;> rfl) hl (starEach_of hst) (by rfl)) (by rfl)) fun D σ H ⟨en, b, F, p, x, h⟩ => by
    dsimp only at h
    split at h
    · rename_i xs qo
      obtain ⟨a, ds, vs, e1, hg, hs, hh, ra⟩ := own_var p qo
      cases e1
      refine ⟨.ref a, hs, .inl ⟨rfl, vs, SqL.of hh⟩, en, b, F, p, fin_out p x h fun d b1 v F1 H1 p1 x1 x01 r h1 => ?_⟩
      split at h1
      · split at h1
        · rename_i ys hlt
          obtain ⟨a', ds', vs', e', hg', hs', hh', ra'⟩ := own_var p1 qo
          cases e'
          rw [hs] at hs'
          cases hs'
          obtain ⟨c, ws, rfl, _, hc, rc⟩ := (show RpR bo F1 H1 v (.list ys) from r)
          obtain ⟨w1, w2⟩ := p1.set_w x01 hg hs (ra'.append rc)
          exact ⟨a, c, vs', ws, rfl, rfl, hh', hc, by rw [ra'.length, rc.length, ← line_eq]; exact hlt, h1 _ _ _ w1 w2 (Same.refl _)⟩
        · exact h1.elim
      · exact h1.elim
    · exact h.elim
def subArm (o i : Expr) (pos : Pos) (env : PySem.Env) : Prop := ∀ v, assign (.Subscript o i pos) env v = (do
      let ov ← holding [v] (eval o env)
      let iv ← holding [v, ov] (eval i env)
      standAt pos
      holding [v, ov, iv] (setItem ov iv v)
      release [v, ov, iv] [])
theorem subArm_of {o i : Expr} {pos : Pos} {env : PySem.Env} (h : notSlice i = true) : subArm o i pos env := by
  intro v
  cases i <;> first
    | rfl
    | cases h
/-- an own list, an own dict: one item put -/
theorem own_put {σ : L2.St} {H F : Hp} {en : Env} {b : Bx} {i : Nat} {o o' kd d : P} {y v : V} (p : Pre bo H0 σ H en b F) (qo : getO en i = some o) (ry : RpR bo F H y kd) (rv : Rp F v d) (hq : setAt o kd d = some o') :
    ∃ a, en[i]? = some (.o o) ∧ σ[i]? = some (some (.ref a)) ∧ ((∃ vs k j, y = .int k ∧ H a = some (.lst vs) ∧ ixN vs.length k = some j ∧ AtO F (.lst (vs.set j v)) o') ∨ ∃ u', DPut H a y v (upd H a u') ∧ AtO F u' o') := by
  have hg := getO_get qo
  obtain ⟨a, e1, ow⟩ := p.env.sl i _ hg
  have hs : σ[i]? = some (some (.ref a)) := by
    cases w : σ[i]? with
    | none => rw [w] at e1; cases e1
    | some u => rw [w] at e1; exact congrArg some e1
  refine ⟨a, hg, hs, ?_⟩
  cases o with
  | list ds =>
    obtain ⟨_, _, _, vs, hh, ra⟩ := ow
    cases kd with
    | int k =>
      have hq : (match L2.ixN ds.length k with | some j => some (PyData.list (ds.set j d)) | none => none) = some o' := hq
      split at hq
      · rename_i j hj
        cases hq
        exact .inl ⟨vs, k, j, RpR.int (bo := bo) (H := H) ry, hh, by rw [ra.length]; exact hj, _, rfl, ra.set rv j⟩
      · cases hq
    | _ => cases hq
  | dict ds =>
    obtain ⟨_, _, _, u, hh, rd⟩ := ow
    have hq : dputD (.dict ds) kd d = some o' := by
      cases kd <;> exact hq
    obtain ⟨u', ds', rfl, g, r'⟩ := dc_put p.sub hh rd ry rv hq
    exact .inr ⟨u', g, r'⟩
  | _ => exact ow.elim
def rSetX : V → V → V → Hp → (Hp → Prop) → Prop := fun o i v H Q => rSetL o i v H Q ∨ ∃ a H', o = .ref a ∧ DPut H a i v H' ∧ Q H'
theorem set_X (hu : X.A.units + 1 < cLine) : PSet X rSetX := by
  intro pins s σ H o i v ov iv u Q I ro ri rv h
  rcases h with h | ⟨a, H', rfl, g, q⟩
  · exact set_list pins s σ H o i v ov iv u Q I ro ri rv h
  · obtain rfl : ov = Value.ref a := ro
    exact d_setItem hu I g ri rv fun s' I' => ⟨H', I', q⟩
theorem sS_stix {i : Nat} {x : Str} {e k : Expr} {ok fe fk : Bool} {g gk : Env → Bx → R P} {px pt pos : Pos} (hu : X.A.units + 1 < cLine) (n : NmOk X i x) (he : Snd X bo H0 cs W false fe e g) (hk : Snd X bo H0 cs W ok fk k gk) (hns : notSlice k = true)
    (hs : swapsWithSole [.Subscript (.Name x px) k pt] e pos.line X.env = pure false) (hw : swappedStores [.Subscript (.Name x px) k pt] e X.env = pure none) :
    PS X (.Assign [.Subscript (.Name x px) k pt] e pos) (liftS bo F0 H0 cs W fr fun en b => match getO en i with
      | some o => (g en b).out en fun d b1 => (gk en b1).out en fun kd b2 => match setAt o kd d with
        | some o' => .nx (en.set i (.o o')) b2
        | none => .no
      | none => .no) :=
  PS.imp (ps_asg (he.n rfl) (pg_sub (pe_var n.hN n.hv n.hd n.hcd) hk.r (set_X hu) (subArm_of hns)) hs hw (by rfl)) fun D σ H ⟨en, b, F, p, x, h⟩ => by
    dsimp only at h
    cases qo : getO en i with
    | none =>
      rw [qo] at h
      exact h.elim
    | some o =>
      rw [qo] at h
      obtain ⟨a, hsl, _⟩ := own_get p.env qo
      refine ⟨en, b, F, p, fin_out p x h fun d b1 v F1 H1 p1 x1 x01 r h1 => ⟨.ref a, hsl, en, b1, F1, p1, fin_out p1 x01 h1 fun kd b2 w F2 H2 p2 x2 x02 r2 h2 => ?_⟩⟩
      cases q : setAt o kd d with
      | none =>
        rw [q] at h2
        exact h2.elim
      | some o' =>
        rw [q] at h2
        have r : Rp F1 v d := r
        obtain ⟨a', hg, hs', c⟩ := own_put p2 qo r2 (r.mono x2.sf) q
        rw [hsl] at hs'
        cases hs'
        rcases c with ⟨vs, ki, j, rfl, hh, hj, ra⟩ | ⟨u', g, ra⟩
        · obtain ⟨w1, w2⟩ := p2.set_u x02 hg hsl ra
          exact .inl ⟨a, vs, ki, j, rfl, rfl, hh, hj, h2 _ _ _ w1 w2 (Same.refl _)⟩
        · obtain ⟨w1, w2⟩ := p2.set_u x02 hg hsl ra
          exact .inr ⟨a, _, rfl, g, h2 _ _ _ w1 w2 (Same.refl _)⟩
def rGetX : V → V → Hp → VK → Prop := fun o i H Q => (∃ p xs k v, o = .ref p ∧ i = .int k ∧ H p = some (.lst xs) ∧ L2.atI xs k = some v ∧ Q v H) ∨ ∃ a v, o = .ref a ∧ DGet H a i (some v) ∧ Q v H
theorem get_X (hu : X.A.units + 1 < cLine) : PGet X rGetX := by
  intro pn s σ H o i ov iv Q I ro ri h
  rcases h with ⟨p, xs, k, z, rfl, rfl, hp, he, q⟩ | ⟨a, v, rfl, g, q⟩
  · obtain rfl : ov = Value.ref p := ro
    obtain ⟨t, rfl⟩ := ri
    obtain ⟨its, r, pl, hz⟩ := I.list (SqL.of hp)
    obtain ⟨j, g1, g2, g3, g4, g5⟩ := atI_get he
    obtain ⟨w, ew, rw'⟩ := r.get g2
    have hln := r.length
    have h63 := line63
    have done : EP X pn σ Q w s := ⟨z, H, I, rw', q⟩
    by_cases h0 : 0 ≤ k
    · have hj : k.toNat = j := Option.some.inj ((seqIndex_of h0 g5).symm.trans g1)
      exact wpAny_getItem_list pl.isList h0 (by omega) (by rw [hj]; simpa using ew) done
    · have hj : (k + (its.toArray.size : Int)).toNat = j := by
        rw [List.size_toArray, ← hln]
        exact Option.some.inj ((PySem.seqIndex_neg (by omega) g4).symm.trans g1)
      exact wpAny_getItem_list_neg pl.isList (by omega) (by rw [List.size_toArray] <;> omega) (by omega) (by rw [hj]; simpa using ew) done
  · obtain rfl : ov = Value.ref a := ro
    exact d_getItem hu I g ri fun w' s' I' r' => ⟨v, H, I', r', q⟩
/-- an own list, an own dict: one item read -/
theorem own_at {σ : L2.St} {H F : Hp} {en : Env} {b : Bx} {i : Nat} {o kd d : P} {y : V} (p : Pre bo H0 σ H en b F) (qo : getO en i = some o) (ry : RpR bo F H y kd) (hq : idxD o kd = some d) :
    ∃ a v, σ[i]? = some (some (.ref a)) ∧ Rp F v d ∧ ((∃ vs k, y = .int k ∧ H a = some (.lst vs) ∧ L2.atI vs k = some v) ∨ DGet H a y (some v)) := by
  obtain ⟨a, hs, ow⟩ := own_get p.env qo
  cases o with
  | list ds =>
    obtain ⟨_, _, _, vs, hh, ra⟩ := ow
    cases kd with
    | int k =>
      obtain ⟨w, e1, e2⟩ := ra.atI (show L2.atI ds k = some d from hq)
      exact ⟨a, w, hs, e2, .inl ⟨vs, k, RpR.int (bo := bo) (H := H) ry, hh, e1⟩⟩
    | _ => cases hq
  | dict ds =>
    obtain ⟨_, _, _, u, hh, rd⟩ := ow
    have hq : (match dgetD (.dict ds) kd with | some (some v) => some v | _ => none) = some d := by
      cases kd <;> exact hq
    split at hq
    · rename_i dv hg
      cases hq
      obtain ⟨ov, g, ro⟩ := dc_get p.sub hh rd ry hg
      cases ov with
      | none => exact ro.elim
      | some ov => exact ⟨a, ov, hs, ro, .inr g⟩
    · cases hq
  | _ => exact ow.elim
theorem sS_augx {i : Nat} {x : Str} {e k : Expr} {op : Operator} {f : Int → Int → Int} {ok ov fe fk : Bool} {g gk : Env → Bx → R P} {px pt pos : Pos} (hu : X.A.units + 1 < cLine) (n : NmOk X i x) (ho : PIp X op (ipI f)) (he : Snd X bo H0 cs W ov fe e g) (hk : Snd X bo H0 cs W ok fk k gk)
    (ha : ∀ ov iv new, augStore k ov iv new = (do holding [new, ov, iv] (setItem ov iv new); release [new, ov, iv] []; pure .next)) :
    PS X (.AugAssign (.Subscript (.Name x px) k pt) op e pos) (liftS bo F0 H0 cs W fr fun en b => match getO en i with
      | some o => (gk en b).out en fun kd b1 => match idxD o kd with
        | some (.int m) => (g en b1).out en fun d b2 => match d with
          | .int n => match setAt o kd (.int (f m n)) with
            | some o' => .nx (en.set i (.o o')) b2
            | none => .no
          | _ => .no
        | _ => .no
      | none => .no) :=
  PS.imp (ps_augS (pe_var n.hN n.hv n.hd n.hcd) hk.r (get_X hu) he.r ho (set_X hu) ha) fun D σ H ⟨en, b, F, p, x, h⟩ => by
    dsimp only at h
    cases qo : getO en i with
    | none =>
      rw [qo] at h
      exact h.elim
    | some o =>
      rw [qo] at h
      obtain ⟨a, hsl, _⟩ := own_get p.env qo
      refine ⟨.ref a, hsl, en, b, F, p, fin_out p x h fun kd b1 w F1 H1 p1 x1 x01 r h1 => ?_⟩
      cases hq : idxD o kd with
      | none =>
        rw [hq] at h1
        exact h1.elim
      | some dv =>
        rw [hq] at h1
        cases dv with
        | int m =>
          obtain ⟨a', v, hs', rv, c⟩ := own_at p1 qo r hq
          rw [hsl] at hs'
          cases hs'
          cases rv
          have rest : lift bo H0 cs W (lM bo .r) g σ H1 fun y H4 => ipI f (.int m) y H4 fun z H5 => rSetX (.ref a) w z H5 fun H6 => D.nx σ H6 :=
            ⟨en, b1, F1, p1, fin_out p1 x01 h1 fun d b2 y F2 H2 p2 x2 x02 r2 h2 => by
              cases d with
              | int n =>
                have ey := RpR.int (bo := bo) (H := H2) r2
                subst ey
                dsimp only at h2
                refine ⟨m, n, rfl, rfl, ?_⟩
                cases q : setAt o kd (.int (f m n)) with
                | none =>
                  rw [q] at h2
                  exact h2.elim
                | some o' =>
                  rw [q] at h2
                  obtain ⟨a', hg, hs', c⟩ := own_put p2 qo (RpR.mono x2 r) (.int (f m n)) q
                  rw [hsl] at hs'
                  cases hs'
                  rcases c with ⟨vs, ki, j, rfl, hh, hj, ra⟩ | ⟨u', g, ra⟩
                  · obtain ⟨w1, w2⟩ := p2.set_u x02 hg hsl ra
                    exact .inl ⟨a, vs, ki, j, rfl, rfl, hh, hj, h2 _ _ _ w1 w2 (Same.refl _)⟩
                  · obtain ⟨w1, w2⟩ := p2.set_u x02 hg hsl ra
                    exact .inr ⟨a, _, rfl, g, h2 _ _ _ w1 w2 (Same.refl _)⟩
              | _ => exact h2.elim⟩
          rcases c with ⟨vs, ki, rfl, hh, ea⟩ | g'
          · exact .inl ⟨a, vs, ki, _, rfl, rfl, hh, ea, rest⟩
          · exact .inr ⟨a, _, rfl, g', rest⟩
        | _ => exact h1.elim
/-! the source of draws -/
theorem bx_ix {β : Addr} {F H : Hp} {b : Bx} (q : BoxRep (some β) F H b) {K : PySem.W.Frag} {j : Nat} {i : Int} (h : bxAt j b = some i) : ∃ xs, SqL K H β xs ∧ L2.atI xs ((j : Nat) : Int) = some (V.int i) := by
  refine ⟨_, SqL.of (q β rfl).2, ?_⟩
  match j, h with
  | 0, h => cases h; rfl
  | 1, h => cases h; rfl
  | 2, h => cases h; rfl
theorem snd_bget {j : Nat} {x : Str} {ov fr : Bool} {px pt p2 : Pos} {k2 : Nat} (hb : bo ≠ none) (n : NmOk X 0 x) : Snd X bo H0 cs W ov fr (.Subscript (.Name x px) (.Constant (.int ((j : Nat) : Int)) k2 p2) pt) fun _ b => R.ofO ((bxAt j b).map .int) b :=
  Snd.of_f (PE.imp (pe_ix ix_list (pe_var n.hN n.hv n.hd n.hcd) pe_int fun _ _ => rfl) fun σ H Q ⟨en, b, F, p, h⟩ => by
    obtain ⟨β, hβ⟩ := Option.ne_none_iff_exists'.mp hb
    dsimp only at h
    cases q : bxAt j b with
    | none =>
      rw [q] at h
      exact h.elim
    | some i =>
      rw [q] at h
      have pb := p.box
      rw [hβ] at pb
      obtain ⟨xs, h1, h2⟩ := bx_ix (K := X.K) pb q
      exact ⟨.ref β, p.bs β hβ, β, xs, ((j : Nat) : Int), .int i, rfl, rfl, h1, h2, h _ F H (Ext.refl p.sub) p.box (Flt.int i).fr⟩) rfl
theorem bx_set {β : Addr} {F H : Hp} {b b2 : Bx} {j : Nat} {i : Int} (h : bxSet j i b = some b2) : L2.ixN ([V.int b.1, V.int b.2.1, V.int b.2.2] : List V).length ((j : Nat) : Int) = some j ∧ ([V.int b.1, V.int b.2.1, V.int b.2.2] : List V).set j (V.int i) = [V.int b2.1, V.int b2.2.1, V.int b2.2.2] := by
  match j, h with
  | 0, h => cases h; exact ⟨rfl, rfl⟩
  | 1, h => cases h; exact ⟨rfl, rfl⟩
  | 2, h => cases h; exact ⟨rfl, rfl⟩
theorem sS_bset {j : Nat} {x : Str} {e : Expr} {fe : Bool} {g : Env → Bx → R P} {px pt p2 pos : Pos} {k2 : Nat} (hb : bo ≠ none) (n : NmOk X 0 x) (he : Snd X bo H0 cs W false fe e g)
    (hs : swapsWithSole [.Subscript (.Name x px) (.Constant (.int ((j : Nat) : Int)) k2 p2) pt] e pos.line X.env = pure false) (hw : swappedStores [.Subscript (.Name x px) (.Constant (.int ((j : Nat) : Int)) k2 p2) pt] e X.env = pure none) :
    PS X (.Assign [.Subscript (.Name x px) (.Constant (.int ((j : Nat) : Int)) k2 p2) pt] e pos) (liftS bo F0 H0 cs W fr fun en b => (g en b).out en fun d b1 => match d with
      | .int n => match bxSet j n b1 with
        | some b2 => .nx en b2
        | none => .no
      | _ => .no) :=
  PS.imp (ps_asg (he.n rfl) (pg_sub (pe_var n.hN n.hv n.hd n.hcd) pe_int set_list (subArm_of rfl)) hs hw (by rfl)) fun D σ H ⟨en, b, F, p, x, h⟩ => by
    obtain ⟨β, hβ⟩ := Option.ne_none_iff_exists'.mp hb
    refine ⟨en, b, F, p, fin_out p x h fun d b1 v F1 H1 p1 x1 x01 r h1 => ?_⟩
    split at h1
    · rename_i i
      split at h1
      · rename_i b2 q
        have r : Rp F1 v (.int i) := r
        cases r
        obtain ⟨f1, f2⟩ := p1.box β hβ
        obtain ⟨w1, w2⟩ := bx_set (β := β) (F := F1) (H := H1) q
        have hx : Ext bo F1 H1 F1 (upd H1 β (.lst (([V.int b1.1, V.int b1.2.1, V.int b1.2.2] : List V).set j (V.int i)))) := by
          refine ⟨Same.refl _, fun a o ha => ?_, fun a o na ha => ?_, fun a o ha hb' => by rw [ha] at hb'; cases hb'⟩
          · rw [upd_ne (ne_of_none ha f1)]
            exact p1.sub _ _ ha
          · rw [upd_ne (fun z => na (by rw [z, hβ]))]
            exact ha
        have hq : BoxRep bo F1 (upd H1 β (.lst (([V.int b1.1, V.int b1.2.1, V.int b1.2.2] : List V).set j (V.int i)))) b2 := fun γ hγ => by
          rw [hβ] at hγ
          cases hγ
          refine ⟨f1, ?_⟩
          rw [upd_same, w2]
        exact ⟨.ref β, p1.bs β hβ, β, _, ((j : Nat) : Int), j, rfl, rfl, f2, w1, h1 _ _ _ (p1.step hx hq) (x01.trans hx hq) (Same.refl _)⟩
      · exact h1.elim
    · exact h1.elim
theorem sS_aug {i : Nat} {x : Str} {e : Expr} {op : Operator} {f : Int → Int → Int} {ov fe : Bool} {g : Env → Bx → R P} {px pos : Pos} (n : NmOk X i x) (hN : X.N.Nodup) (hx : X.env.scope.names.lookup x = some .local) (ho : PIp X op (ipI f)) (he : Snd X bo H0 cs W ov fe e g) (h0 : bo ≠ none → i ≠ 0) :
    PS X (.AugAssign (.Name x px) op e pos) (liftS bo F0 H0 cs W fr fun en b => match getV en i with
      | some (.int m) => (g en b).out en fun d b1 => match d with
        | .int k => .nx (en.set i (.v (.int (f m k)))) b1
        | _ => .no
      | _ => .no) :=
  PS.imp (ps_aug hN n.hN (.inl hx) he.r ho (.inr hx)) fun D σ H ⟨en, b, F, p, x, h⟩ => by
    dsimp only at h
    split at h
    · rename_i m qo
      obtain ⟨v, hs, r0⟩ := slot_get p.env qo
      cases r0
      refine ⟨.int m, hs, en, b, F, p, fin_out p x h fun d b1 w F1 H1 p1 x1 x01 r h1 => ?_⟩
      split at h1
      · rename_i k
        exact ⟨m, k, rfl, RpR.int (bo := bo) (H := H1) r, h1 _ F1 H1 (p1.set_v (.int _) h0) x01 (Same.refl _)⟩
      · exact h1.elim
    · exact h.elim
/-! tests, loops, ends -/
theorem sS_if {c : Expr} {as bs : List Stmt} {pos : Pos} {ov fe : Bool} {g : Env → Bx → R P} {ga gb : Env → Bx → Out} (hc : Snd X bo H0 cs W ov fe c g) (ha : PSs X as (liftS bo F0 H0 cs W fr ga)) (hb : PSs X bs (liftS bo F0 H0 cs W fr gb)) :
    PS X (.If c as bs pos) (liftS bo F0 H0 cs W fr fun e b => (gT g e b).out e fun t b1 => if t then ga e b1 else gb e b1) :=
  PS.imp (ps_if hc.t ha hb) fun D σ H ⟨e, b, F, p, x, h⟩ => ⟨e, b, F, p, finT_out p x h fun t b1 F1 H1 p1 x1 _ h1 => by
    cases t with
    | true => rw [if_pos rfl] at h1 ⊢; exact ⟨e, b1, F1, p1, x1, h1⟩
    | false => rw [if_neg Bool.false_ne_true] at h1 ⊢; exact ⟨e, b1, F1, p1, x1, h1⟩⟩
theorem sS_ret {e : Expr} {ov fe : Bool} {g : Env → Bx → R P} {pos : Pos} (he : Snd X bo H0 cs W ov fe e g) (h1 : fr = true → fe = true) (h2 : fr = false → ov = false) : PS X (.Return (some e) pos) (liftS bo F0 H0 cs W fr fun en b => (g en b).out en fun d b1 => .rt d b1) :=
  PS.imp (ps_ret (he.lR h1 h2)) fun D σ H ⟨en, b, F, p, x, h⟩ => ⟨en, b, F, p, fin_out p x h fun d b1 v F1 H1 p1 x1 x01 r h3 => h3 v F1 H1 x01 p1.box (hRR H0 H F1 H1 v d r fun a ha => by
    cases q : H0 a with
    | none => rfl
    | some u => exact absurd ha (p.al a (by rw [q]; exact (fun z => nomatch z))))⟩
/-- the def's own list is handed out -/
theorem sS_retO {i : Nat} {x : Str} {px pos : Pos} (n : NmOk X i x) (hf : fr = true) : PS X (.Return (some (.Name x px)) pos) (liftS bo F0 H0 cs W fr fun en b => (R.ofO (getO en i) b).out en fun d b1 => .rt d b1) :=
  PS.imp (ps_ret (pe_var n.hN n.hv n.hd n.hcd)) fun D σ H ⟨en, b, F, p, x, h⟩ => by
    dsimp only at h
    cases qo : getO en i with
    | none =>
      rw [qo] at h
      exact h.elim
    | some d =>
      rw [qo] at h
      obtain ⟨a, hs, o⟩ := own_get p.env qo
      refine ⟨.ref a, hs, h (.ref a) F H x p.box ?_⟩
      subst hf
      cases d with
      | list ds =>
        obtain ⟨n1, n2, n3, vs, hh, ra⟩ := o
        exact ⟨a, vs, rfl, n1, n2, n3, hh, ra⟩
      | dict ds =>
        obtain ⟨n1, n2, n3, vs, hh, ra⟩ := o
        exact ⟨a, vs, rfl, n1, n2, n3, hh, ra⟩
      | _ => exact o.elim
theorem lR_non {F H : Hp} : lR fr bo H0 F H .non .none := by
  cases fr with
  | false => exact Rp.non
  | true => exact Rp.non
theorem sS_retN {pos : Pos} : PS X (.Return none pos) (liftS bo F0 H0 cs W fr fun _ b => .rt .none b) := PS.imp ps_retN fun D σ H ⟨en, b, F, p, x, h⟩ => h .non F H x p.box lR_non
theorem sS_for {tg iter : Expr} {body : List Stmt} {pos : Pos} {tgD : Tg} {git : Env → Bx → R P} {gb : Env → Bx → Out} (hp : PassesOwn (model X.prog X.w) X.A X.env X.xe) (hc : X.calm = true) (hi : PI X tg iter (liftI bo H0 cs W true git)) (hg : PG X tg (liftG bo H0 tgD)) (hb : PSs X body (liftS bo F0 H0 cs W fr gb))
    (hs : notSet iter = true) : PS X (.For tg iter body [] pos) (liftS bo F0 H0 cs W fr fun e b => (git e b).out e fun d b1 => match itemsD d with
      | none => .no
      | some xs => forL (fun x e b => match asgn tgD x e with
        | none => .no
        | some e' => gb e' b) xs e b1) :=
  PS.imp (ps_for hp hc hi hg hb (notSet_folded hs)) fun D σ H ⟨e, b, F, p, x, h⟩ => by
    refine ⟨e, b, F, p, ?_⟩
    dsimp only at h
    cases q : git e b with
    | no =>
      rw [q] at h
      exact h
    | ex c d b1 =>
      rw [q] at h
      exact fun dd F1 H1 x1 z r => h σ dd F1 H1 (p.step x1 z) (x.trans x1 z) r
    | ok d b1 =>
      rw [q] at h
      have h : finS bo F0 H0 cs W fr D F (match itemsD d with
        | none => .no
        | some xs => forL (fun x e b => match asgn tgD x e with
          | none => .no
          | some e' => gb e' b) xs e b1) := h
      dsimp only
      cases qi : itemsD d with
      | none =>
        rw [qi] at h
        exact h
      | some xs =>
        rw [qi] at h
        dsimp only at h ⊢
        intro J F1 H1 x1 z wk _
        have wk := wk rfl
        generalize hfb : (fun x e b => match asgn tgD x e with
          | none => Out.no
          | some e' => gb e' b) = fb at h
        refine ⟨fun i m σ H => i ≤ xs.length ∧ m = xs.length - i ∧ ∃ e b F, Pre bo H0 σ H e b F ∧ Ext bo F0 H0 F H ∧ Same F1 F ∧ finS bo F0 H0 cs W fr D F (forL fb (xs.drop i) e b), ⟨xs.length, Nat.zero_le _, rfl, e, b1, F1, p.step x1 z, x.trans x1 z, Same.refl _, finS_up x1.sf h⟩, ?_⟩
        rintro i m σ2 H2 ⟨hi, rfl, e2, b2, F2, p2, x2, s2, h2⟩
        by_cases hlt : i < xs.length
        · obtain ⟨d0, hd0⟩ : ∃ d0, xs[i]? = some d0 := ⟨xs[i], List.getElem?_eq_getElem hlt⟩
          have hdrop : xs.drop i = d0 :: xs.drop (i + 1) := by
            rw [List.drop_eq_getElem_cons hlt]
            rw [List.getElem?_eq_getElem hlt] at hd0
            rw [Option.some.inj hd0]
          rw [hdrop] at h2
          obtain ⟨go, yl⟩ := (wk i F2 H2 s2 p2.sub).1 d0 hd0
          refine .inr ⟨go, fun σ H => ∃ e b F, Pre bo H0 σ H e b F ∧ Ext bo F0 H0 F H ∧ Same F1 F ∧ finS bo F0 H0 cs W fr D F (forL fb (xs.drop (i + 1)) e b), fun σ' H' nx => ⟨xs.length - (i + 1), by omega, hlt, rfl, nx⟩, fun y H3 hy => ?_⟩
          obtain ⟨F3, x3, r3⟩ := yl y H3 hy
          have z3 : BoxRep bo F3 H3 b2 := x3.box p2.box
          have p3 := p2.step x3.of_none z3
          have x03 := x2.trans x3.of_none z3
          have h2 : finS bo F0 H0 cs W fr D F2 ((fb d0 e2 b2).bind fun e1 b1 => forL fb (xs.drop (i + 1)) e1 b1) := h2
          have hfb0 : fb d0 e2 b2 = match asgn tgD d0 e2 with
            | none => Out.no
            | some e' => gb e' b2 := by rw [← hfb]
          cases qa : asgn tgD d0 e2 with
          | none =>
            rw [qa] at hfb0
            rw [hfb0] at h2
            exact h2.elim
          | some e' =>
            rw [qa] at hfb0
            rw [hfb0] at h2
            have h2 : finS bo F0 H0 cs W fr D F2 ((gb e' b2).bind fun e1 b1 => forL fb (xs.drop (i + 1)) e1 b1) := h2
            refine ⟨e2, b2, F3, d0, e', p3, r3, qa, fun σ4 p4 _ _ => ⟨e', b2, F3, p4, x03, ?_⟩⟩
            have s3 : Same F1 F3 := s2.trans x3.sf
            cases qb : gb e' b2 with
            | no =>
              rw [qb] at h2
              exact h2.elim
            | rt d b =>
              rw [qb] at h2
              exact h2
            | xx e c d b =>
              rw [qb] at h2
              exact h2
            | nx e5 b5 =>
              rw [qb] at h2
              exact fun σ5 F5 H5 p5 x5 s5 => ⟨e5, b5, F5, p5, x5, s3.trans s5, finS_up (x3.sf.trans s5) h2⟩
        · have hie : i = xs.length := by omega
          subst hie
          rw [List.drop_length] at h2
          exact .inl ⟨(wk _ F2 H2 s2 p2.sub).2 rfl, h2 σ2 F2 H2 p2 x2 (Same.refl _)⟩
theorem sS_while {c : Expr} {body : List Stmt} {pos : Pos} {ov fe : Bool} {g : Env → Bx → R P} {gb : Env → Bx → Out} {n : Nat} (hp : PassesOwn (model X.prog X.w) X.A X.env X.xe) (hc : Snd X bo H0 cs W ov fe c g) (hb : PSs X body (liftS bo F0 H0 cs W fr gb)) :
    PS X (.While c body [] pos) (liftS bo F0 H0 cs W fr fun e b => whileL (gT g) gb n e b) :=
  PS.imp (ps_while hp hc.t hb) fun D σ H ⟨e, b, F, p, x, h⟩ => by
    refine ⟨fun m σ H => ∃ e b F, Pre bo H0 σ H e b F ∧ Ext bo F0 H0 F H ∧ finS bo F0 H0 cs W fr D F (whileL (gT g) gb m e b), ⟨n, e, b, F, p, x, h⟩, ?_⟩
    rintro m σ2 H2 ⟨e2, b2, F2, p2, x2, h2⟩
    cases m with
    | zero => exact h2.elim
    | succ m =>
      refine ⟨e2, b2, F2, p2, finT_out p2 x2 h2 fun t b1 F1 H1 p1 x1 _ h1 => ?_⟩
      cases t with
      | true =>
        rw [if_pos rfl] at h1 ⊢
        refine ⟨fun σ H => ∃ e b F, Pre bo H0 σ H e b F ∧ Ext bo F0 H0 F H ∧ finS bo F0 H0 cs W fr D F (whileL (gT g) gb m e b), fun σ' H' nx => ⟨m, Nat.lt_succ_self m, nx⟩, e2, b1, F1, p1, x1, ?_⟩
        cases qb : gb e2 b1 with
        | no =>
          rw [qb] at h1
          exact h1.elim
        | rt d b =>
          rw [qb] at h1
          exact h1
        | xx e c d b =>
          rw [qb] at h1
          exact h1
        | nx e5 b5 =>
          rw [qb] at h1
          exact fun σ5 F5 H5 p5 x5 s5 => ⟨e5, b5, F5, p5, x5, finS_up s5 h1⟩
      | false =>
        rw [if_neg Bool.false_ne_true] at h1 ⊢
        exact h1 σ2 F1 H1 p1 x1 (Same.refl _)
end
end Dv
/-! text EX2 -/
set_option Elab.async false
set_option linter.all false
set_option maxRecDepth 100000
set_option maxHeartbeats 4000000
namespace Dv
open PySem PySem.Spec L2

/-! ### an own error in an except suite -/
structure ErrH (K : PySem.W.Frag) (C : Addr) (B : String) : Prop where
  ga : PySem.W.findIn K (.ref C) "__getattribute__" = some (some (.builtin "BaseException.__getattribute__"))
  gg : PySem.W.findIn K (.ref C) "__getattr__" = some none
  hd : PySem.W.hasDictIn K C = true
  cl : (PySem.W.clsIn K C).isSome = true
  te : PySem.W.exmOne K (.ref C) (.ref C) = some true
  ha : PySem.W.findIn K (.ref C) "__class__" = some (some (.builtin "object.__class__"))
  hn : PySem.W.specialIn K (.builtin "object.__class__") "__get__" = some (some (.builtin "getset_descriptor.__get__"))
  ht : PySem.W.takesIn K (.builtin "object.__class__") = some true
  hm : PySem.W.mroIn K C (.type "object") = some true
  kit : PySem.W.kitOne K (.ref C) (.type B) = some true
/-- a def may raise and catch this error -/
def ExcAt (X : Cx) (cs : Cls') (xn : Str) (c : Nat) (f : Str) (B : String) : Prop :=
  ∃ (newId initId : String) (bm : List Value) (fI cc ca : Addr) (k : Nat), ErrT X.prog X.K X.mg xn f B newId initId bm (cs.ad c) fI cc ca ∧ ErrH X.K (cs.ad c) B ∧ cs.fld c = f ∧ BindsErr f ∧ Room k X.A ∧ (xn == ("__debug__" : Str)) = false
section
variable {X : Cx} {a C : Addr} {oe : Obj} {d : Option Addr} {pn : List (Addr × Obj)}
/-- isinstance(e, c), e the caught exception, its dict at dd -/
def rIsD (K : PySem.W.Frag) (D a : Addr) (d : Option Addr) : List V → Hp → VK → Prop := fun xs H Q => ∃ (c : V) (cv : Value) (b : Bool) (dd : Addr) (fs : List (Str × V)), xs = [.ref a, c] ∧ (∀ u, RelV c u → u = cv) ∧ PySem.W.kitOne K (.ref D) cv = some b ∧ d = some dd ∧ H dd = some (.xd fs) ∧ Q (.bl b) H
theorem call_isD {B : String} (T : ErrH X.K C B) (hx : PySem.W.subIn X.K (.ref C) (.type "BaseException") = some true) (hz : Zc (.ref C) d oe) (hf : ∃ vs, oe.data = .fields vs) : CallR (X.suite a ((a, oe) :: pn)) (.builtin "isinstance") (rIsD X.K C a d) := by
  intro pins s σ H xs us Q I r h
  obtain ⟨c, cv, b, dd, fs, rfl, hcv, e, ed, ea, q⟩ := h
  cases r with
  | cons rx rr =>
    cases rr with
    | cons rt rr =>
      cases rr
      cases rx
      have ec := hcv _ rt
      subst ec
      obtain ⟨hget, _⟩ := I.pin (a, oe) (List.mem_append.mpr (.inl List.mem_cons_self))
      obtain ⟨vs, hv⟩ := hf
      have hx2 : ObjOk X.prog X.w H s.heap dd (.xd fs) := I.hok dd _ ea
      obtain ⟨mA, hns, hr⟩ := hx2
      obtain ⟨od, ho, hl⟩ := lookIn_ns hns
      have J : PySem.W.InstAt s.heap a oe C (some od) := ⟨hget, hz.1, by unfold PySem.W.notCls; rw [hv] <;> rfl, by rw [hz.2, ed]; exact ho⟩
      exact PySem.W.kia_one (PySem.W.kitx_exc T.cl T.ga T.gg hx T.ha T.hn T.ht T.hm) I.kIn J e (fun z => nomatch z) fun tk => ⟨.bl b, H, I.kept (t' := tk) fun _ _ z => z, rfl, q⟩
/-- the suite: x = [s, e.f, isinstance(e, B)] -/
def tSu (i j : Nat) (s : Str) (f : Str) (C a : Addr) (cls : Value) (d : Option Addr) : TS := fun D σ H => cls = .ref C ∧ σ[i]? = some (some (.ref a)) ∧ ∃ (dd : Addr) (v : V), d = some dd ∧ H dd = some (.xd [(f, v)]) ∧ ∀ p, H p = none → D.nx (σ.set j (some (.ref p))) (upd H p (.lst [.str s, v, .bl true]))
theorem pss_su {i j : Nat} {cls : Value} {n x s f : Str} {B : String} {newId initId : String} {bm : List Value} {xn : Str} {fI cc ca : Addr} {p1 p2 p3 p4 p5 p6 p7 p8 p9 p10 : Pos} {ks : Nat} (T : ErrT X.prog X.K X.mg xn f B newId initId bm C fI cc ca) (Th : ErrH X.K C B)
    (hz : Zc cls d oe) (hf : ∃ vs, oe.data = .fields vs) (hN : X.N.Nodup) (hi : X.N[i]? = some n) (hin : Vis X.env.scope n) (hnd : (n == ("__debug__" : Str)) = false) (hnc : (n == ("__classdict__" : Str)) = false) (hj : X.N[j]? = some x) (hjl : X.env.scope.names.lookup x = some .local)
    (gi : Gl X "isinstance") (mi : X.mg "isinstance" = none) (gB : Gl X (B : Str)) (mB : X.mg (B : Str) = none) (vB : bootBuiltins (B : Str) = some (.type B)) (nB : (B : Str) ≠ "__name__") (dB : ((B : Str) == ("__debug__" : Str)) = false)
    (hb : attributeBase (.Name n p4) f X.env (eval (.Name n p4) X.env) = eval (.Name n p4) X.env) (hs : swapsWith (.List [.Constant (.str s) ks p3, .Attribute (.Name n p4) f p5, .Call (.Name "isinstance" p6) [.Name n p7, .Name (B : Str) p8] [] p9] p2) (some (.Name x p1)) p10.line X.env = pure false)
    (he : starEach [.Constant (.str s) ks p3, .Attribute (.Name n p4) f p5, .Call (.Name "isinstance" p6) [.Name n p7, .Name (B : Str) p8] [] p9] X.env = [(false, eval (.Constant (.str s) ks p3) X.env), (false, eval (.Attribute (.Name n p4) f p5) X.env), (false, eval (.Call (.Name "isinstance" p6) [.Name n p7, .Name (B : Str) p8] [] p9) X.env)] := by rfl) :
    PSs (X.suite a ((a, oe) :: pn)) [.Assign [.Name x p1] (.List [.Constant (.str s) ks p3, .Attribute (.Name n p4) f p5, .Call (.Name "isinstance" p6) [.Name n p7, .Name (B : Str) p8] [] p9] p2) p10] (tSu i j s f C a cls d) := by
  by_cases hc : cls = .ref C
  · subst hc
    have vn : ∀ pos, PE (X.suite a ((a, oe) :: pn)) (.Name n pos) (tVar i) := fun pos => pe_var (X := X.suite a ((a, oe) :: pn)) hi hin hnd hnc
    have P := ps_set (X := X.suite a ((a, oe) :: pn)) (i := j) (pos := p10) (pos' := p1) hN hj (.inl hjl) (pe_lst (pos := p2) (pa_cons (pe_str (x := s) (j := ks) (pos := p3)) (pa_cons (pe_xf (C := C) (cls := .ref C) (d := d) (pos := p5) ⟨Th.ga, Th.gg, T.exC, Th.hd⟩ T.noF hz hf (vn p4) hb)
      (pa_cons (pe_callB (X := X.suite a ((a, oe) :: pn)) (pos := p9) (call_isD Th T.exC hz hf) gi mi (by decide +kernel) (pa_cons (vn p7) (pa_cons (pe_bltn (X := X.suite a ((a, oe) :: pn)) (v := .ty B) (pos := p8) gB mB vB rfl nB dB) pa_nil))) pa_nil)))) hs (.inr hjl)
    refine PSs.imp (pss_one P) fun D σ H ⟨_, h1, dd, v, h2, h3, h4⟩ => ?_
    refine ⟨_, h1, rfl, rfl, dd, _, v, h2, h3, by simp [List.lookup], _, h1, .ty B, .type B, true, dd, _, rfl, fun u hu => hu, Th.kit, h2, h3, ?_, fun p hp => h4 p hp⟩
    rw [sizeLine_eq]
    exact (by decide : 3 ≤ 16777216)
  · exact ⟨fun pins s σ H D I h => absurd h.1 hc⟩
end
end Dv
/-! text DA -/
set_option Elab.async false
set_option linter.all false
set_option maxRecDepth 100000
set_option maxHeartbeats 4000000
namespace HT
open PySem PySem.Spec PyProof.Rows L2
theorem dv_fmap {α β : Type} {f g : α → Option β} : ∀ {l : List α}, (∀ x ∈ l, f x = g x) → l.filterMap f = l.filterMap g
  | [], _ => rfl
  | x :: l, h => by
    rw [List.filterMap_cons, List.filterMap_cons, h x List.mem_cons_self, dv_fmap fun y hy => h y (List.mem_cons_of_mem _ hy)]
section
variable {prog : Program} {w : World} {A : Around} {E : Value → Shared → Prop} {s : Shared}
/-! ### t[::-1] -/
theorem dv_applied {sl : Addr} {vs : Value} {n : Nat} {Q : Int × Int × Nat → Shared → Prop} (hs : s.heap.IsSliceOf sl .none .none vs) (ps : IsPart vs (some (-1)))
    (h : Q ((n : Int) - 1, -1, n) s) : wpAny (model prog w) A (Builtin.Slice.sliceApplied (.ref sl) (pure (n : Int))) Q E s := by
  obtain ⟨os, hos, hcs, hds⟩ := id hs
  unfold Builtin.Slice.sliceApplied Builtin.Slice.sliceFields
  refine wpAny_bind (wpAny_bind (wpAny_field hos hds (x := .none) rfl (wpAny_bind (wpAny_field hos hds (x := .none) rfl (wpAny_bind (wpAny_field hos hds (x := vs) rfl (wpAny_pure ?_)))))))
  refine wpAny_bind (slicePart_ ps ?_)
  show wpAny _ _ (if ((-1 : Int) == 0) = true then _ else _) _ _ s
  rw [if_neg (by decide)]
  refine wpAny_bind (slicePart_none (wpAny_bind (slicePart_none (wpAny_bind (wpAny_pure ?_)))))
  show wpAny _ _ (match Builtin.Slice.sliceAdjust none none (-1) (n : Int) with | (lo, hi) => pure (lo, (-1 : Int), Builtin.Slice.slicePlaces lo hi (-1))) _ _ s
  have e1 : Builtin.Slice.sliceAdjust none none (-1) (n : Int) = ((n : Int) - 1, -1) := by
    unfold Builtin.Slice.sliceAdjust
    rfl
  have e2 : Builtin.Slice.slicePlaces ((n : Int) - 1) (-1) (-1) = n := by
    unfold Builtin.Slice.slicePlaces
    simp
    omega
  rw [e1]
  show wpAny _ _ (pure ((n : Int) - 1, (-1 : Int), Builtin.Slice.slicePlaces ((n : Int) - 1) (-1) (-1))) _ _ s
  rw [e2]
  exact wpAny_pure h
theorem dv_pick (xs : Array Value) : ((List.range xs.size).filterMap fun (m : Nat) => xs[(((xs.size : Int) - 1) + (m : Int) * -1).toNat]?).toArray = xs.toList.reverse.toArray := by
  have h := PySem.W.krv_pick xs
  unfold slicePick at h
  rw [PySem.W.krv_bounds] at h
  have h : ((sliceRange ((xs.size : Int) - 1) (-1) (-1)).filterMap (xs[·]?)).toArray = xs.toList.reverse.toArray := h
  rw [PySem.W.krv_sliceRange, List.filterMap_map] at h
  rw [← h]
  congr 1
  apply dv_fmap
  intro m hm
  have := List.mem_range.mp hm
  show xs[(((xs.size : Int) - 1) + (m : Int) * -1).toNat]? = xs[xs.size - 1 - m]?
  congr 1
  omega
theorem dv_getItem {t sl : Addr} {items : Array Value} {vs : Value} {Q : Value → Shared → Prop} (ht : IsTup s.heap t items) (hs : s.heap.IsSliceOf sl .none .none vs) (ps : IsPart vs (some (-1)))
    (h : Q (.ref s.heap.objs.size) { s with heap := s.heap.push { cls := .type "tuple", data := .seq items.toList.reverse.toArray } })
    (hsz : items.size ≤ sizeLine) : wpAny (model prog w) A (getItem (.ref t) (.ref sl)) Q E s := by
  have htake : sizeOk (.seq items.toList.reverse.toArray) := by
    show items.toList.reverse.toArray.size ≤ sizeLine
    rw [List.size_toArray, List.length_reverse, Array.length_toList]
    exact hsz
  obtain ⟨os, hos, hcs, hds⟩ := id hs
  have hTs : s.TypeIs (.ref sl) "slice" := ⟨os, hos, hcs⟩
  unfold getItem
  try with_reducible refine wpAny_holding ?_
  first | refine wpAny_bind (wpAny_pure ?_) | skip
  refine wpAny_bind (wpAny_sequenceKey ht.typeIs (by decide) ?_)
  refine wpAny_bind (wpAny_callSpecial?_slot (name := Str.ofString "__getitem__") ht.typeIs PyProof.Rows.slot_tuple_getitem
    (wpAny_call_entry PyProof.Rows.slot_tuple_getitem ht.typeIs entry_tuple_getitem ?_ (args_tuple_getitem _ _)))
  show wpAny _ _ (Builtin.Tuple.tupleItemsOf (.ref t) >>= _) _ _ s
  refine wpAny_bind (tupleItemsOf_ ht ?_)
  refine wpAny_bind (wpAny_typeOf hTs ?_)
  rw [if_pos (by decide)]
  refine wpAny_bind (dv_applied hs ps ?_)
  have hno : ¬ (((items.size : Int) - 1 == 0 && (-1 : Int) == 1 && items.size == items.size) = true) := by
    intro q
    rw [Bool.and_eq_true, Bool.and_eq_true] at q
    exact absurd q.1.2 (by decide)
  show wpAny _ _ (if ((items.size : Int) - 1 == 0 && (-1 : Int) == 1 && items.size == items.size) = true then _ else _) _ _ s
  rw [if_neg hno, dv_pick]
  first
    | exact wpAny_bind (m := Builtin.Tuple.tupleExact _) (wpAny_newObj_type (wpAny_pure ⟨_, rfl, wpAny_pure h⟩) htake)
    | exact wpAny_bind (m := Builtin.Tuple.tupleExact _) (wpAny_newObj_type (wpAny_bind (wpAny_pure (wpAny_pure ⟨_, rfl, wpAny_pure h⟩))) htake)
    | exact wpAny_bind (wpAny_bind (m := Builtin.Tuple.tupleExact _) (wpAny_newObj_type (wpAny_pure (wpAny_pure ⟨_, rfl, wpAny_pure h⟩)) htake))
    | exact wpAny_bind (wpAny_bind (m := Builtin.Tuple.tupleExact _) (wpAny_newObj_type (wpAny_pure ⟨_, rfl, wpAny_pure h⟩) htake))
end
end HT
namespace Dv
open PySem PySem.Spec PyProof.Rows L2
section
variable {X : Cx} {bo : Option Addr} {H0 : Hp} {cs : Cls'} {W : WX}
def tRevT (K : PySem.W.Frag) (te : TE) : TE := fun σ H Q => te σ H fun x H1 => (∃ a xs, x = .ref a ∧ SqL K H1 a xs ∧ ∀ p, H1 p = none → Q (.ref p) (upd H1 p (.lst xs.reverse))) ∨
  ∃ a xs, x = .ref a ∧ SqT K H1 a xs ∧ ∀ p, H1 p = none → Q (.ref p) (upd H1 p (.tup xs.reverse))
theorem pe_revA {e : Expr} {te : TE} {k : Nat} {p1 p2 p3 pos : Pos} (he : PE X e te) : PE X (.Subscript e (.Slice none none (some (.UnaryOp .USub (.Constant (.int 1) k p1) p2)) p3) pos) (tRevT X.K te) := by
  refine ⟨fun pins s σ H Q I h => ?_⟩
  refine Subscript_ (thn (he.run pins s σ H _ I h) fun v s1 ⟨x, H1, I1, r1, q1⟩ => ?_)
  have hst : PO X (some (.UnaryOp .USub (.Constant (.int 1) k p1) p2)) (tPart (tUn (rU fun i => .int (-i)) (tC (.int 1)))) := po_some (pe_un un_neg pe_int)
  refine wpAny_Slice (thn (po_none.run pins s1 σ H1 (fun o H2 => o = none ∧ H2 = H1) I1 ⟨rfl, rfl⟩) fun vl s2 ⟨l, H2, I2, pl, el, e2⟩ => ?_)
  subst el e2
  refine thn (po_none.run pins s2 σ H2 (fun o H3 => o = none ∧ H3 = H2) I2 ⟨rfl, rfl⟩) fun vu s3 ⟨u, H3, I3, pu, eu, e3⟩ => ?_
  subst eu e3
  refine thn (hst.run pins s3 σ H3 (fun o H4 => o = some (-1) ∧ H4 = H3) I3 ⟨1, rfl, -1, rfl, rfl, rfl⟩) fun vs s4 ⟨o, H4, I4, ps, eo, e4⟩ => ?_
  subst eo e4
  have I5 : Inv X pins σ H4 { s4 with heap := s4.heap.push { cls := .type "slice", data := .fields #[vl, vu, vs] } } := I4.kept (t' := s4.toks) fun b ob q => Heap.get?_push_of_some _ q
  rcases q1 with ⟨a, xs, ex, hx, q⟩ | ⟨a, xs, ex, hx, q⟩
  · subst ex
    cases r1
    obtain ⟨its, r, ht, hz⟩ := I5.list hx
    have hlen := r.length
    show wpAny (model X.prog X.w) X.A (subscriptTail e (.Slice none none (some (.UnaryOp .USub (.Constant (.int 1) k p1) p2)) p3) (.ref a) (.ref s4.heap.objs.size)) (EP X pins σ Q) X.xe { s4 with heap := s4.heap.push { cls := .type "slice", data := .fields #[vl, vu, vs] } }
    refine tail_any (ops := [.ref a, .ref s4.heap.objs.size]) ht.isList.typeIs (PySem.slot_list_getitem.lookup) ?_ (by with_unfolding_all rfl)
    refine wpAny_getItem_list_slice ht.isList (Heap.IsSliceOf.new _ vl vu vs) pl pu ps (by decide) ?_ (by rw [List.size_toArray]; omega)
    rw [PySem.W.krv_pick]
    refine ⟨.ref _, _, I5.laid (t' := s4.toks) (o := .lst xs.reverse) (fun b ob q => Heap.get?_push_of_some _ q) (Nat.le_refl _) ?_, rfl, q _ (I5.hok.fresh (Nat.le_refl _))⟩
    exact ⟨by rw [List.length_reverse]; exact hz, _, 0, r.reverse, Heap.get?_push_size _ rfl⟩
  · subst ex
    cases r1
    obtain ⟨its, r, ht, hz⟩ := I5.tuple hx
    have hlen := r.length
    have pl : IsPart vl none := pl
    have pu : IsPart vu none := pu
    have el : vl = .none := by cases pl; rfl
    have eu : vu = .none := by cases pu; rfl
    subst el eu
    show wpAny (model X.prog X.w) X.A (subscriptTail e (.Slice none none (some (.UnaryOp .USub (.Constant (.int 1) k p1) p2)) p3) (.ref a) (.ref s4.heap.objs.size)) (EP X pins σ Q) X.xe { s4 with heap := s4.heap.push { cls := .type "slice", data := .fields #[.none, .none, vs] } }
    refine tail_any (ops := [.ref a, .ref s4.heap.objs.size]) ht.typeIs (PyProof.Rows.slot_tuple_getitem.lookup) ?_ (by with_unfolding_all rfl)
    refine HT.dv_getItem ht (Heap.IsSliceOf.new _ .none .none vs) ps ?_ (by rw [List.size_toArray]; omega)
    refine ⟨.ref _, _, I5.laid (t' := s4.toks) (o := .tup xs.reverse) (fun b ob q => Heap.get?_push_of_some _ q) (Nat.le_refl _) ?_, rfl, q _ (I5.hok.fresh (Nat.le_refl _))⟩
    exact ⟨by rw [List.length_reverse]; exact hz, _, r.reverse, IsTup.new _ _⟩
theorem snd_rev {ov o1 f1 fr : Bool} {e : Expr} {k : Nat} {p1 p2 p3 pos : Pos} {g : Env → Bx → R P} (he : Snd X bo H0 cs W o1 f1 e g) :
    Snd X bo H0 cs W ov fr (.Subscript e (.Slice none none (some (.UnaryOp .USub (.Constant (.int 1) k p1) p2)) p3) pos) fun e b => (g e b).bind fun d b1 => R.ofO (revD d) b1 :=
  Snd.of_f (PE.imp (pe_revA he.r) fun σ H Q ⟨e, b, F, p, h⟩ => ⟨e, b, F, p, fin_bind hRFf p h fun d b1 v F1 H1 p1 x1 r1 h1 => by
    cases d with
    | list ds =>
      obtain ⟨a, vs, rfl, n, hh, ra⟩ := r1
      refine .inl ⟨a, vs, rfl, SqL.of hh, fun q hq => ?_⟩
      obtain ⟨m1, m2⟩ := made_lst (ds := ds.reverse) p1.sub p1.box hq ra.reverse
      exact h1 _ F1 _ m1.of_none (m1.box p1.box) m2
    | tuple ds =>
      obtain ⟨a, vs, rfl, hh, ra⟩ := RpR.tup (bo := bo) (H := H1) r1
      refine .inr ⟨a, vs, rfl, SqT.of (p1.sub _ _ hh), fun q hq => ?_⟩
      obtain ⟨F2, m1, m2⟩ := made_tup (ds := ds.reverse) p1.sub hq ra.reverse
      exact h1 _ F2 _ m1.of_none (m1.box p1.box) m2
    | none => exact h1.elim
    | bool b => exact h1.elim
    | int i => exact h1.elim
    | str z => exact h1.elim
    | dict ds => exact h1.elim⟩) rfl
end
end Dv
/-! text DE2 -/
set_option Elab.async false
set_option linter.all false
set_option maxRecDepth 100000
set_option maxHeartbeats 4000000
namespace PySem
open AutoSeq1 (wpAny_loadPart')

/-! ### enumerate over a tuple -/
theorem ent_new (t : Addr) (its : Array Value) (n : Nat) (dc : Option Addr) (sl : Array (Option Value)) :
    Meets (Builtin.«enumerate.__new__» ⟨[.type "enumerate", .ref t], []⟩) (fun _ R s => s.heap.get? t = some { cls := .type "tuple", dict := dc, data := .seq its n, slots := sl } ∧
      R (.ok (.ret (.ref (s.heap.push { cls := .type "tuple_iterator", data := .fields #[.ref t, .int 0 0] }).objs.size)))
        { s with heap := (s.heap.push { cls := .type "tuple_iterator", data := .fields #[.ref t, .int 0 0] }).push { cls := .type "enumerate", data := .fields #[.none, .bool false, .ref s.heap.objs.size, rawInt 0, .none, .none] } }) :=
  .of_wp fun prog w A R s q => by
    obtain ⟨hp, g, d, tk, os⟩ := s
    obtain ⟨ht, q⟩ := q
    have hT : Heap.IsTuple (Shared.heap ⟨hp, g, d, tk, os⟩) t its := ⟨_, ht, rfl, n, rfl⟩
    have hs := sub_enumerate
    wp_walk using wpAny_loadPart' ht
    refine wpAny_stack_any fun st => wpAny_pure ?_
    split
    · rename_i c _ _ _ _ _
      cases (c == Value.type "enumerate")
      all_goals
        wp_walk using wpAny_loadPart' ht, wpAny_pyIter_tuple hT
        exact ⟨_, rfl, q⟩
    · wp_walk using wpAny_loadPart' ht, wpAny_pyIter_tuple hT
      exact ⟨_, rfl, q⟩
section
variable {prog : Program} {w : World} {A : Around} {E : Value → Shared → Prop} {s : Shared} {it t e : Addr} {i : Nat} {its : Array Value} {x old : Value}
theorem tup_item {Q : Value → Shared → Prop} (hi : s.heap.IsTupleIter it t i) (ht : s.heap.IsTuple t its) (hx : its[i]? = some x) (q : ∀ h', h'.IsTupleIter it t (i + 1) → Heap.SameBut it s.heap h' → Q x { s with heap := h' }) :
    wpAny (model prog w) A (Builtin.SmallTypes.nextOf (.ref it)) Q E s := by
  obtain ⟨oi, hoi, hci, hdi⟩ := id hi
  obtain ⟨ot, hot, _, nt, hdt⟩ := ht
  unfold Builtin.SmallTypes.nextOf
  refine wpAny_bind (wpAny_callSpecial?_slot (name := Str.ofString "__next__") hi.typeIs F.slot_tuple_iterator_next (wpAny_call_entry F.slot_tuple_iterator_next hi.typeIs F.entry_tuple_iterator_next ?_ (F.args_tuple_iterator_next_1 _)))
  refine wpAny_bind (m := field (.ref it) 0) (wpAny_field hoi hdi (x := .ref t) rfl ?_)
  show wpAny _ _ (if (Value.ref t == Value.none) = true then _ else _) _ _ s
  rw [if_neg (show ¬ ((Value.ref t == Value.none) = true) from Bool.false_ne_true)]
  refine wpAny_bind (m := field (.ref it) 1) (wpAny_field hoi hdi (x := .int i 0) rfl ?_)
  refine wpAny_bind (m := seqItems? (.ref t)) (wpAny_seqItems hot hdt ?_)
  simp only [Int.toNat_natCast, hx]
  refine wpAny_bind (wpAny_setField hoi hdi (by simp) (wpAny_pure ⟨x, rfl, wpAny_pure (q _ ⟨_, Heap.get?_update_self _ hoi (Obj.isFreed_of_fields (Obj.data_mapFields hdi _)), (Obj.cls_mapFields ..).trans hci, ?_⟩ (Heap.SameBut.update ..))⟩))
  rw [Obj.data_mapFields hdi]
  simp [rawInt]
theorem tup_end {Q : Value → Shared → Prop} (hh : A.handled = none) (hi : s.heap.IsTupleIter it t i) (ht : s.heap.IsTuple t its) (hx : its[i]? = none)
    (q : ∀ h' a, Heap.ExtBut it s.heap h' → (∃ o, h'.get? a = some o ∧ o.cls = .type "StopIteration") → E (.ref a) { s with heap := h' }) : wpAny (model prog w) A (Builtin.SmallTypes.nextOf (.ref it)) Q E s := by
  obtain ⟨oi, hoi, hci, hdi⟩ := id hi
  obtain ⟨ot, hot, _, nt, hdt⟩ := ht
  unfold Builtin.SmallTypes.nextOf
  refine wpAny_bind (wpAny_callSpecial?_slot (name := Str.ofString "__next__") hi.typeIs F.slot_tuple_iterator_next (wpAny_call_entry F.slot_tuple_iterator_next hi.typeIs F.entry_tuple_iterator_next ?_ (F.args_tuple_iterator_next_1 _)))
  refine wpAny_bind (m := field (.ref it) 0) (wpAny_field hoi hdi (x := .ref t) rfl ?_)
  show wpAny _ _ (if (Value.ref t == Value.none) = true then _ else _) _ _ s
  rw [if_neg (show ¬ ((Value.ref t == Value.none) = true) from Bool.false_ne_true)]
  refine wpAny_bind (m := field (.ref it) 1) (wpAny_field hoi hdi (x := .int i 0) rfl ?_)
  refine wpAny_bind (m := seqItems? (.ref t)) (wpAny_seqItems hot hdt ?_)
  simp only [Int.toNat_natCast, hx]
  refine wpAny_bind (wpAny_rule (wpAny_bind (wpAny_setField hoi hdi (by simp) ?_)))
  refine wpAny_bind (m := newExc (.type "StopIteration") []) ?_
  simp only [newExc, newTuple]
  refine wpAny_bind (wpAny_newObj_type (wpAny_bind (m := firstArgMember _ _) (wpAny_of_eq (a := Value.none) (by first | rfl | (simp only [firstArgMember]; rfl)) ?_)) (by size_fits))
  refine wpAny_newObj_type ?_ (by size_fits)
  simp only [raiseNew]
  refine wpAny_bind (wpAny_handled ?_)
  first
    | rw [hh]
    | rw [show A.in1.handled = none from hh]
  exact wpAny_bind (wpAny_pure (wpAny_throw (q _ _ (((Heap.SameBut.update ..).extBut.push _).push _) ⟨_, Heap.get?_push_size _ rfl, rfl⟩)))
/-- the item that enumerate makes of what the inner walk gives -/
theorem ent_item {Q : Value → Shared → Prop} (he : IsEnum s.heap e it i old) (hi : s.heap.IsTupleIter it t i) (ht : s.heap.IsTuple t its) (hx : its[i]? = some x) (hne : e ≠ it)
    (q : ∀ h', IsEnumOut h' e it ((i : Int) + 1) x s.heap.objs.size → h'.IsTupleIter it t (i + 1) → h'.get? s.heap.objs.size = some { cls := .type "tuple", data := .seq #[.int i s.toks, x] } → h'.objs.size = s.heap.objs.size + 1 →
      (∀ b o, b ≠ e → b ≠ it → s.heap.get? b = some o → h'.get? b = some o) → Q (.ref s.heap.objs.size) { s with heap := h', toks := s.toks + 1 }) :
    wpAny (model prog w) A (Builtin.«enumerate.__next__» ⟨[.ref e], []⟩) (fun fin s' => ∃ v, fin = .done (.ret v) ∧ Q v s') E s := by
  obtain ⟨hp, g, d, tk, os⟩ := s
  refine wpAny_bind (m := field (.ref e) 2) (wpAny_field he rfl (x := .ref it) rfl ?_)
  refine wpAny_bind (tup_item hi ht hx fun h1 i1 (m1 : Heap.SameBut it hp h1) => ?_)
  have e1 : IsEnum h1 e it i old := (m1.2 e hne).trans he
  refine wpAny_bind (m := field (.ref e) 3) (wpAny_field e1 rfl (x := rawInt i) rfl ?_)
  refine wpAny_bind (m := field (.ref e) 4) (wpAny_field e1 rfl (x := .none) rfl ?_)
  refine wpAny_bind (m := mkInt i) (wpAny_mkInt ?_)
  refine wpAny_bind (m := setField (.ref e) 3 (rawInt ((i : Int) + 1))) (wpAny_setField_rec e1 (by simp) fun h2 (e2 : IsEnum h2 e it ((i : Int) + 1) old) (m2 : Heap.SameBut e h1 h2) => ?_)
  refine wpAny_bind (m := setField (.ref e) 4 .none) (wpAny_setField_rec e2 (by simp) fun h3 (e3 : IsEnum h3 e it ((i : Int) + 1) old) (m3 : Heap.SameBut e h2 h3) => ?_)
  refine wpAny_bind (m := newTuple [.int i tk, x]) (wpAny_newTuple ?_)
  have sz : h3.objs.size = hp.objs.size := by rw [m3.1, m2.1, m1.1]
  have le : e < hp.objs.size := Heap.lt_size he
  have ne : hp.objs.size ≠ e := Nat.ne_of_gt le
  obtain ⟨h4, hh4⟩ : ∃ h4, h4 = h3.push { cls := .type "tuple", data := .seq #[.int i tk, x] } := ⟨_, rfl⟩
  have e4 : IsEnum h4 e it ((i : Int) + 1) old := by
    rw [hh4]
    exact Heap.get?_push_of_some _ e3
  have t4 : h4.get? hp.objs.size = some { cls := .type "tuple", data := .seq #[.int i tk, x] } := by
    rw [hh4, ← sz]
    exact Heap.get?_push_size _ rfl
  have z4 : h4.objs.size = hp.objs.size + 1 := by rw [hh4, Heap.size_push, sz]
  have k4 : ∀ b o, b ≠ e → b ≠ it → hp.get? b = some o → h4.get? b = some o := fun b o n1 n2 w => by
    rw [hh4]
    exact Heap.get?_push_of_some _ (m3.extBut b o n1 (m2.extBut b o n1 (m1.extBut b o n2 w)))
  have i4 : h4.IsTupleIter it t (i + 1) := by
    rw [hh4]
    exact (i1.at fun o w => Heap.get?_push_of_some _ (m3.extBut it o (Ne.symm hne) (m2.extBut it o (Ne.symm hne) w)))
  rw [← hh4, sz]
  show wpAny _ _ (Builtin.SmallTypes.ownedTupleIsFree (.ref e) >>= _) _ _ ⟨h4, g, d, tk + 1, os⟩
  refine wpAny_bind ?_
  clear hh4 e3 m3 e2 m2 e1 m1 i1 sz h3 h2 h1
  unfold Builtin.SmallTypes.ownedTupleIsFree
  refine wpAny_bind (wpAny_field e4 rfl (x := .none) rfl (wpAny_pure ?_))
  simp only [if_true]
  refine wpAny_bind (wpAny_rule (wpAny_bind (wpAny_field e4 rfl (x := old) rfl (wpAny_bind (wpAny_setField_rec e4 (by simp) fun h5 (e5 : IsEnum h5 e it ((i : Int) + 1) x) (m5 : Heap.SameBut e h4 h5) => ?_)))))
  refine wpAny_bind (m := Builtin.SmallTypes.ownedTupleHandOut (.ref e) (.ref hp.objs.size)) ?_
  unfold Builtin.SmallTypes.ownedTupleHandOut
  refine wpAny_bind (wpAny_setField_rec e5 (by simp) fun h6 (e6 : IsEnumOut h6 e it ((i : Int) + 1) x hp.objs.size) (m6 : Heap.SameBut e h5 h6) => ?_)
  refine wpAny_setField_rec e6 (by simp) fun h7 (e7 : IsEnumOut h7 e it ((i : Int) + 1) x hp.objs.size) (m7 : Heap.SameBut e h6 h7) => ?_
  have k7 : ∀ b o, b ≠ e → h4.get? b = some o → h7.get? b = some o := fun b o n w => m7.extBut b o n (m6.extBut b o n (m5.extBut b o n w))
  refine wpAny_bind (wpAny_letGo (wpAny_pure ⟨_, rfl, q h7 e7 (i4.at fun o w => k7 it o (Ne.symm hne) w) (k7 _ _ ne t4) ?_ fun b o n1 n2 w => k7 b o n1 (k4 b o n1 n2 w)⟩))
  rw [m7.1, m6.1, m5.1, z4]
theorem ent_next {Q : Option Value → Shared → Prop} (he : IsEnum s.heap e it i old) (hi : s.heap.IsTupleIter it t i) (ht : s.heap.IsTuple t its) (hx : its[i]? = some x) (hne : e ≠ it)
    (q : ∀ h', IsEnumOut h' e it ((i : Int) + 1) x s.heap.objs.size → h'.IsTupleIter it t (i + 1) → h'.get? s.heap.objs.size = some { cls := .type "tuple", data := .seq #[.int i s.toks, x] } → h'.objs.size = s.heap.objs.size + 1 →
      (∀ b o, b ≠ e → b ≠ it → s.heap.get? b = some o → h'.get? b = some o) → Q (some (.ref s.heap.objs.size)) { s with heap := h', toks := s.toks + 1 }) : wpAny (model prog w) A (pyNext (.ref e)) Q E s := by
  have ty : s.TypeIs (.ref e) "enumerate" := ⟨_, he, rfl⟩
  unfold pyNext
  exact wpAny_bind (wpAny_attempt (wpAny_callSpecial?_slot (name := Str.ofString "__next__") ty F.slot_enumerate_next (wpAny_call_entry F.slot_enumerate_next ty F.entry_enumerate_next (ent_item he hi ht hx hne fun h' a b c d k => wpAny_pure (q h' a b c d k)) (F.args_enumerate_next_1 _))))
theorem ent_stop {Q : Option Value → Shared → Prop} (hh : A.handled = none) (he : IsEnum s.heap e it i old) (hi : s.heap.IsTupleIter it t i) (ht : s.heap.IsTuple t its) (hx : its[i]? = none) (q : ∀ h', Heap.ExtBut it s.heap h' → Q none { s with heap := h' }) :
    wpAny (model prog w) A (pyNext (.ref e)) Q E s := by
  have ty : s.TypeIs (.ref e) "enumerate" := ⟨_, he, rfl⟩
  unfold pyNext
  refine wpAny_bind (wpAny_attempt (wpAny_callSpecial?_slot (name := Str.ofString "__next__") ty F.slot_enumerate_next (wpAny_call_entry F.slot_enumerate_next ty F.entry_enumerate_next ?_ (F.args_enumerate_next_1 _))))
  refine wpAny_bind (m := field (.ref e) 2) (wpAny_field he rfl (x := .ref it) rfl (wpAny_bind (tup_end hh hi ht hx fun h' y k ⟨o, ho, hc⟩ => ?_)))
  exact wpAny_bind (wpAny_isInstance (T := "StopIteration") (b := true) ⟨o, ho, hc⟩ isSubtype_stop (wpAny_pure (q _ k)))
theorem call_ent {Q : Value → Shared → Prop} (ht : s.heap.IsTuple t its)
    (q : ∀ h', IsEnum h' (s.heap.objs.size + 1) s.heap.objs.size 0 .none → h'.IsTupleIter s.heap.objs.size t 0 → (∀ b o, s.heap.get? b = some o → h'.get? b = some o) → Q (.ref (s.heap.objs.size + 1)) { s with heap := h' }) :
    wpAny (model prog w) A (call (.type "enumerate") [.ref t]) Q E s := by
  obtain ⟨⟨c, dc, dt, sl⟩, hl, hc, n, hd⟩ := ht
  have hc : c = .type "tuple" := hc
  have hd : dt = .seq its n := hd
  subst hc hd
  refine callType_new F.called_enumerate (by decide) (F.typeCall_enumerate_1 _) (F.newCall_enumerate_1 _) (fun obj => F.args_object_init_2 obj _) F.entry_enumerate_new (ent_new t its n dc sl) ⟨hl, ?_⟩
  have hz : (s.heap.push { cls := .type "tuple_iterator", data := .fields #[.ref t, .int 0 0] }).objs.size = s.heap.objs.size + 1 := Heap.size_push ..
  show _ ∧ _
  rw [hz]
  have he : IsEnum ((s.heap.push { cls := .type "tuple_iterator", data := .fields #[.ref t, .int 0 0] }).push { cls := .type "enumerate", data := .fields #[.none, .bool false, .ref s.heap.objs.size, rawInt 0, .none, .none] }) (s.heap.objs.size + 1) s.heap.objs.size 0 .none := by
    have z := Heap.get?_push_size (s.heap.push { cls := .type "tuple_iterator", data := .fields #[.ref t, .int 0 0] }) (o := { cls := .type "enumerate", data := .fields #[.none, .bool false, .ref s.heap.objs.size, rawInt 0, .none, .none] }) rfl
    rw [hz] at z
    exact z
  exact ⟨⟨_, he, rfl⟩, q _ he ⟨_, Heap.get?_push_of_some _ (Heap.get?_push_size _ rfl), rfl, rfl⟩ fun b o z => Heap.get?_push_of_some _ (Heap.get?_push_of_some _ z)⟩
end
end PySem
namespace Dv
open PySem PySem.Spec PyProof.Rows L2
/-- the tuple at a, each item in a new pair -/
def IteT (K : PySem.W.Frag) (a : Addr) : It :=
  ⟨fun i H => ∃ (xs : List V) (x : V), SqT K H a xs ∧ xs[i]? = some x, fun i H v H' => ∃ T x, v = .ref T ∧ H T = none ∧ H' = upd H T (.tup [.int (i : Nat), x]) ∧ ∀ xs, SqT K H a xs → xs[i]? = some x, fun i H => ∃ xs : List V, SqT K H a xs ∧ xs.length ≤ i⟩
theorem turn_ent {P : Program} {w : World} {K : PySem.W.Frag} {elts : List Expr} {kk : Nat} {tpos : Pos} (a e it : Addr) :
    Turn P w K (.Tuple elts kk tpos) (IteT K a) [e, it] e (fun i h => (∃ old, IsEnum h e it ((i : Nat) : Int) old) ∧ h.IsTupleIter it a i ∧ e ≠ it) where
  mem := by simp
  obj := fun i h st b hb => by
    obtain ⟨⟨old, he⟩, ⟨o, ho, hc, hd⟩, _⟩ := st
    have z : b = e ∨ b = it := by simpa using hb
    rcases z with rfl | rfl
    · exact ⟨_, he, fun v q => nomatch q⟩
    · exact ⟨o, ho, fun v q => by rw [hd] at q; cases q⟩
  keep := fun i h h' st k => by
    obtain ⟨⟨old, he⟩, hi, hne⟩ := st
    exact ⟨⟨old, k e (by simp) _ he⟩, hi.at fun o q => k it (by simp) o q, hne⟩
  item := by
    intro X hP hw hK hc i pins s σ H E I hf st hg
    subst hP hw hK
    obtain ⟨⟨old, he⟩, hit, hne⟩ := st
    obtain ⟨xs, x, hq, hx⟩ := hg
    obtain ⟨its, rv, p, hz⟩ := I.tuple hq
    obtain ⟨u, hu, ru⟩ := rv.get hx
    have hel : e < s.heap.objs.size := Heap.lt_size he
    have hil : it < s.heap.objs.size := by
      obtain ⟨_, q, _⟩ := hit
      exact Heap.lt_size q
    refine ent_next he hit p (x := u) (by simpa using hu) hne fun h' ho hit' hT hsz hk => ⟨_, rfl, wpAny_letOwnedTupleGo_enum (s := { s with heap := h', toks := s.toks + 1 }) ho fun h'' he' sb => ?_⟩
    have hT2 : h''.get? s.heap.objs.size = some { cls := .type "tuple", data := .seq #[.int i s.toks, u] } := (sb.2 _ (Nat.ne_of_gt hel)).trans hT
    have new : ObjOk X.prog X.w (upd H s.heap.objs.size (.tup [.int (i : Nat), x])) h'' s.heap.objs.size (.tup [.int (i : Nat), x]) :=
      ⟨by show 2 ≤ sizeLine; decide, [.int i s.toks, u], .cons ⟨_, rfl⟩ (.cons ru .nil), ⟨_, hT2, rfl, _, rfl⟩⟩
    have I1 : Inv X pins σ (upd H s.heap.objs.size (.tup [.int (i : Nat), x])) { s with heap := h'', toks := s.toks + 1 } :=
      I.turnedNew (ch := [e, it]) (fun b ob hb q => (sb.2 b (fun z => hb (by simp [z]))).trans (hk b ob (fun z => hb (by simp [z])) (fun z => hb (by simp [z])) q)) hf (Nat.le_refl _) new
    refine ⟨.ref s.heap.objs.size, _, I1, rfl, ⟨_, x, rfl, I.hok.fresh (Nat.le_refl _), rfl, fun ys hy => by rw [I.tuple_inj hy hq]; exact hx⟩, ⟨⟨u, ?_⟩, hit'.at fun o q => (sb.2 it (Ne.symm hne)).trans q, hne⟩, fun b hb => ?_⟩
    · have e1 : ((i + 1 : Nat) : Int) = (i : Int) + 1 := by omega
      rw [e1]
      exact he'
    · have z : b = e ∨ b = it := by simpa using hb
      have hb' : b < s.heap.objs.size := by
        rcases z with rfl | rfl
        · exact hel
        · exact hil
      rw [upd_ne (Nat.ne_of_lt hb')]
      exact (hf b hb).1
  done := by
    intro X hP hw hK hc i pins s σ H E I hf st hg
    subst hP hw hK
    obtain ⟨⟨old, he⟩, hit, hne⟩ := st
    obtain ⟨xs, hq, hx⟩ := hg
    obtain ⟨its, rv, p, hz⟩ := I.tuple hq
    obtain ⟨f0, f1, f2, f3, f4, f5⟩ := hf it (by simp)
    have hl := rv.length
    exact ent_stop (I.ok.hd hc) he hit p (by simp; omega) fun h' eb => ⟨rfl, I.turned (t' := s.toks) (fun b o hb q => eb b o hb q) f0 f1 f3 f4 f5⟩
  self := fun A i s Q E st h => by
    obtain ⟨⟨_, he⟩, _⟩ := st
    exact wpAny_pyIter_enum he h
def iEnum2 (K : PySem.W.Frag) (ta : TA) : TI := fun σ H R => ta σ H fun vs H1 => ∃ a xs, vs = [.ref a] ∧ ((SqL K H1 a xs ∧ R (Ite K a) H1) ∨ (SqT K H1 a xs ∧ R (IteT K a) H1))
theorem pi_enum2 {X : Cx} {e : Expr} {ta : TA} {p pos tpos : Pos} {elts : List Expr} {kk : Nat} (hg : Gl X "enumerate") (hm : X.mg "enumerate" = none) (ha : PA X [e] ta) (hs : starEach [e] X.env = [(false, eval e X.env)]) :
    PI X (.Tuple elts kk tpos) (.Call (.Name "enumerate" p) [e] [] pos) (iEnum2 X.K ta) := by
  refine ⟨fun pins s σ H R I h => Call_ (ld_blt I hg hm boot_enumerate (PyProof.Rows.callWith_type1 (thn (ha.run pos pins s σ H _ I h) fun us s1 ⟨vs, H1, I1, r1, q1⟩ => ?_) hs rfl))⟩
  obtain ⟨a, xs, ex, hq⟩ := q1
  subst ex
  rw [Vals.ref1 r1]
  have free : ∀ b ∈ [s1.heap.objs.size + 1, s1.heap.objs.size], FpOk X pins H1 b := fun b hb => by
    have hle : s1.heap.objs.size ≤ b := by
      have z : b = s1.heap.objs.size + 1 ∨ b = s1.heap.objs.size := by simpa using hb
      omega
    exact I1.fpOk hle (I1.hok.fresh hle)
  rcases hq with ⟨hq, q⟩ | ⟨hq, q⟩
  · obtain ⟨its, rv, p', hz⟩ := I1.list hq
    refine call_enumerate_list p'.isList fun h' he hit hsz hk => wpAny_pyIter_enum he ?_
    have I2 : Inv X pins σ H1 { s1 with heap := h' } := I1.kept (t' := s1.toks) hk
    exact ⟨s1.heap.objs.size + 1, [s1.heap.objs.size + 1, s1.heap.objs.size], _, _, H1, rfl, I2, turn_enum a (s1.heap.objs.size + 1) s1.heap.objs.size, ⟨⟨.none, he⟩, hit, Nat.succ_ne_self _⟩, free, q⟩
  · obtain ⟨its, rv, p', hz⟩ := I1.tuple hq
    refine call_ent p' fun h' he hit hk => wpAny_pyIter_enum he ?_
    have I2 : Inv X pins σ H1 { s1 with heap := h' } := I1.kept (t' := s1.toks) hk
    exact ⟨s1.heap.objs.size + 1, [s1.heap.objs.size + 1, s1.heap.objs.size], _, _, H1, rfl, I2, turn_ent a (s1.heap.objs.size + 1) s1.heap.objs.size, ⟨⟨.none, he⟩, hit, Nat.succ_ne_self _⟩, free, q⟩
end Dv
/-! text DB -/
set_option Elab.async false
set_option linter.all false
set_option maxRecDepth 100000
set_option maxHeartbeats 4000000
namespace Dv
open PySem PySem.Spec PyProof.Rows L2
section
variable {X : Cx} {bo : Option Addr} {H0 : Hp} {cs : Cls'} {W : WX}
/-! ### walks over range, zip, enumerate -/
theorem rngUp_len : ∀ (lo : Int) (n : Nat), (rngUp lo n).length = n
  | _, 0 => rfl
  | lo, n + 1 => congrArg (· + 1) (rngUp_len (lo + 1) n)
theorem rngUp_get : ∀ {lo : Int} {n i : Nat}, i < n → (rngUp lo n)[i]? = some (.int (lo + i))
  | _, n + 1, 0, _ => by simp [rngUp]
  | lo, n + 1, i + 1, h => by
    show (rngUp (lo + 1) n)[i]? = _
    rw [rngUp_get (by omega)]
    congr 2
    omega
theorem rngBy_len : ∀ (lo c : Int) (n : Nat), (rngBy lo c n).length = n
  | _, _, 0 => rfl
  | lo, c, n + 1 => congrArg (· + 1) (rngBy_len (lo + c) c n)
theorem rngBy_get : ∀ {lo c : Int} {n i : Nat}, i < n → (rngBy lo c n)[i]? = some (.int (lo + i * c))
  | lo, c, n + 1, 0, _ => by simp [rngBy]
  | lo, c, n + 1, i + 1, h => by
    show (rngBy (lo + c) c n)[i]? = _
    rw [rngBy_get (by omega)]
    congr 2
    rw [Int.natCast_add, Int.add_mul]
    omega
theorem lt_of_get {α : Type} {l : List α} {i : Nat} {d : α} (h : l[i]? = some d) : i < l.length := (List.getElem?_eq_some_iff.mp h).1
theorem wk_rng {F : Hp} {lo : Int} {n : Nat} : WalkS (Itr lo n) F (rngUp lo n) := fun i F2 H2 s1 s2 => ⟨fun d hd => by
    have hi : i < n := by
      have := lt_of_get hd
      rw [rngUp_len] at this
      exact this
    refine ⟨hi, fun y H3 hy => ?_⟩
    obtain ⟨rfl, rfl⟩ := hy
    rw [rngUp_get hi] at hd
    cases hd
    exact ⟨F2, Ext.refl s2, .int _⟩, fun hi => by
    rw [rngUp_len] at hi
    show n ≤ i
    omega⟩
theorem wk_rngC {F : Hp} {lo c : Int} {n : Nat} : WalkS (Itc lo c n) F (rngBy lo c n) := fun i F2 H2 s1 s2 => ⟨fun d hd => by
    have hi : i < n := by
      have := lt_of_get hd
      rw [rngBy_len] at this
      exact this
    refine ⟨hi, fun y H3 hy => ?_⟩
    obtain ⟨e1, e2⟩ := hy
    subst e1
    subst e2
    rw [rngBy_get hi] at hd
    cases hd
    exact ⟨F2, Ext.refl s2, .int _⟩, fun hi => by
    rw [rngBy_len] at hi
    show n ≤ i
    omega⟩
theorem int62_iff {i : Int} (h : int62 i = true) : -(2 ^ 62) ≤ i ∧ i < 2 ^ 62 := by
  have h := leN_iff h
  constructor <;> omega
/-- what an argument list of a walk gives -/
theorem liftI_args {gs : Env → Bx → R P} {f : List P → Option (List P)} {st : Bool} {m : Mo} {σ : L2.St} {H : Hp} {Rr : It → Hp → Prop} {Q1 : List V → Hp → Prop} (h : liftI bo H0 cs W st (fun e b => (gs e b).bind fun ds b1 => R.ofO ((f (argsOf ds)).map .list) b1) σ H Rr)
    (hk : ∀ ds xs vs F1 H1, Same F1 H1 → Paired (RpM bo F1 H1 m) vs ds → f ds = some xs → (∀ J, (st = true → WalkS J F1 xs) → WalkW J bo F1 H1 xs → Rr J H1) → Q1 vs H1) : liftA bo H0 cs W m gs σ H Q1 := by
  obtain ⟨e, b, F, p, h⟩ := h
  refine ⟨e, b, F, p, ?_⟩
  dsimp only at h
  cases q : gs e b with
  | no =>
    rw [q] at h
    exact h
  | ex c d b1 =>
    rw [q] at h
    exact h
  | ok d b1 =>
    rw [q] at h
    intro vs F1 H1 x z r
    rw [bindR_ok] at h
    cases qf : f (argsOf d) with
    | none =>
      rw [qf] at h
      exact h.elim
    | some xs =>
      rw [qf] at h
      exact hk _ xs vs F1 H1 x.sub r qf fun J w1 w2 => h J F1 H1 x z w1 w2
theorem one_int {vs : List V} {i : Int} {F H : Hp} (r : Paired (RpM bo F H .r) vs [.int i]) : vs = [.int i] := by
  cases r with
  | cons r1 t =>
    cases t
    rw [RpR.int (bo := bo) (F := F) (H := H) r1]
theorem two_int {vs : List V} {i j : Int} {F H : Hp} (r : Paired (RpM bo F H .r) vs [.int i, .int j]) : vs = [.int i, .int j] := by
  cases r with
  | cons r1 t =>
    rw [RpR.int (bo := bo) (F := F) (H := H) r1]
    rw [one_int t]
theorem three_int {vs : List V} {i j k : Int} {F H : Hp} (r : Paired (RpM bo F H .r) vs [.int i, .int j, .int k]) : vs = [.int i, .int j, .int k] := by
  cases r with
  | cons r1 t =>
    rw [RpR.int (bo := bo) (F := F) (H := H) r1]
    rw [two_int t]
theorem paired_len {α β : Type} {r : α → β → Prop} : ∀ {xs : List α} {ys : List β}, Paired r xs ys → xs.length = ys.length
  | _, _, .nil => rfl
  | _, _, .cons _ t => congrArg (· + 1) (paired_len t)
def rng1 : List P → Option (List P)
  | [.int j] => if int62 j then some (rngUp 0 j.toNat) else none
  | _ => none
def rng2 : List P → Option (List P)
  | [.int i, .int j] => if int62 i && int62 j then some (rngUp i (j - i).toNat) else none
  | _ => none
def rng3 : List P → Option (List P)
  | [.int i, .int j, .int (-1)] => if int62 i && int62 j then some (rngBy i (-1) (i - j).toNat) else none
  | _ => none
theorem spi_rng1 {tg a : Expr} {p pos : Pos} {gs : Env → Bx → R P} {st : Bool} (hg : Gl X "range") (hm : X.mg "range" = none) (ha : PA X [a] (liftA bo H0 cs W .r gs)) (hst : notStar a = true) :
    PI X tg (.Call (.Name "range" p) [a] [] pos) (liftI bo H0 cs W st fun e b => (gs e b).bind fun ds b1 => R.ofO ((rng1 (argsOf ds)).map .list) b1) :=
  PI.imp (pi_range1 hg hm ha (starEach_of hst)) fun σ H Rr h => liftI_args h fun ds xs vs F1 H1 s1 r hf k => by
    unfold rng1 at hf
    split at hf
    · rename_i j
      split at hf
      · rename_i hj
        cases hf
        obtain ⟨h1, h2⟩ := int62_iff hj
        rw [one_int r]
        exact ⟨j, rfl, h1, h2, k _ (fun _ => wk_rng) wk_rng.w⟩
      · cases hf
    · cases hf
theorem spi_rng2 {tg a a2 : Expr} {p pos : Pos} {gs : Env → Bx → R P} {st : Bool} (hg : Gl X "range") (hm : X.mg "range" = none) (ha : PA X [a, a2] (liftA bo H0 cs W .r gs)) (hst : notStar a = true) (hst2 : notStar a2 = true) :
    PI X tg (.Call (.Name "range" p) [a, a2] [] pos) (liftI bo H0 cs W st fun e b => (gs e b).bind fun ds b1 => R.ofO ((rng2 (argsOf ds)).map .list) b1) :=
  PI.imp (pi_range2 hg hm ha (by rw [starEach_of hst, starEach_of hst2] <;> rfl) (starEach_of hst2)) fun σ H Rr h => liftI_args h fun ds xs vs F1 H1 s1 r hf k => by
    unfold rng2 at hf
    split at hf
    · rename_i i j
      split at hf
      · rename_i hj
        cases hf
        rw [Bool.and_eq_true] at hj
        obtain ⟨h1, h2⟩ := int62_iff hj.1
        obtain ⟨h3, h4⟩ := int62_iff hj.2
        rw [two_int r]
        exact ⟨i, j, rfl, ⟨h1, h2, h3, h4⟩, k _ (fun _ => wk_rng) wk_rng.w⟩
      · cases hf
    · cases hf
theorem spi_rng3 {tg a a2 a3 : Expr} {p pos : Pos} {gs : Env → Bx → R P} {st : Bool} (hg : Gl X "range") (hm : X.mg "range" = none) (ha : PA X [a, a2, a3] (liftA bo H0 cs W .r gs)) (hst : notStar a = true) (hp : allPlain [a2, a3] = true) :
    PI X tg (.Call (.Name "range" p) [a, a2, a3] [] pos) (liftI bo H0 cs W st fun e b => (gs e b).bind fun ds b1 => R.ofO ((rng3 (argsOf ds)).map .list) b1) :=
  PI.imp (pi_range3 hg hm ha (starEach_of hst) (noStars hp)) fun σ H Rr h => liftI_args h fun ds xs vs F1 H1 s1 r hf k => by
    unfold rng3 at hf
    split at hf
    · rename_i i j
      split at hf
      · rename_i hj
        cases hf
        rw [Bool.and_eq_true] at hj
        obtain ⟨h1, h2⟩ := int62_iff hj.1
        obtain ⟨h3, h4⟩ := int62_iff hj.2
        rw [three_int r]
        exact ⟨i, j, -1, _, rfl, RgC.neg h1 h2 h3 h4, k _ (fun _ => wk_rngC) wk_rngC.w⟩
      · cases hf
    · cases hf
theorem zipD_get : ∀ {xs ys : List P} {i : Nat} {d : P}, (zipD xs ys)[i]? = some d → ∃ a b, xs[i]? = some a ∧ ys[i]? = some b ∧ d = .tuple [a, b]
  | x :: xs, y :: ys, 0, d, h => by
    cases h
    exact ⟨x, y, rfl, rfl, rfl⟩
  | x :: xs, y :: ys, i + 1, d, h => zipD_get (xs := xs) (ys := ys) (i := i) h
  | [], ys, i, d, h => by cases ys <;> cases h
  | x :: xs, [], i, d, h => by cases h
theorem zipD_len : ∀ {xs ys : List P}, (zipD xs ys).length = min xs.length ys.length
  | [], ys => by cases ys <;> simp [zipD]
  | x :: xs, [] => by simp [zipD]
  | x :: xs, y :: ys => by simp [zipD, zipD_len (xs := xs) (ys := ys)]
theorem pair_new {F H : Hp} {T : Addr} {x y : V} {a b : P} (s : Same F H) (hT : H T = none) (rx : Rp F x a) (ry : Rp F y b) : ∃ F', Ext none F H F' (upd H T (.tup [x, y])) ∧ Rp F' (.ref T) (.tuple [a, b]) :=
  made_tup s hT (.cons rx (.cons ry .nil))
theorem wk_zipL {K : PySem.W.Frag} {F : Hp} {H : Hp} {a b : Addr} {vs ws : List V} {xs ys : List P} (n1 : some a ≠ bo) (n2 : some b ≠ bo) (ha : H a = some (.lst vs)) (hb : H b = some (.lst ws)) (ra : RpA F vs xs) (rb : RpA F ws ys) : WalkW (Itz K a b) bo F H (zipD xs ys) :=
  fun i F2 H2 x2 => ⟨fun d hd => by
    obtain ⟨p, q, h1, h2, rfl⟩ := zipD_get hd
    obtain ⟨v, e1, r1⟩ := ra.get h1
    obtain ⟨w, e2, r2⟩ := rb.get h2
    have ka := SqL.of (K := K) (x2.keep _ _ n1 ha)
    have kb := SqL.of (K := K) (x2.keep _ _ n2 hb)
    refine ⟨⟨vs, ws, v, w, ka, kb, e1, e2⟩, fun y H3 hy => ?_⟩
    obtain ⟨T, y1, y2, rfl, hT, rfl, f1, f2⟩ := hy
    have g1 := f1 vs ka
    have g2 := f2 ws kb
    rw [e1] at g1
    rw [e2] at g2
    cases g1
    cases g2
    exact pair_new x2.sub hT (r1.mono x2.sf) (r2.mono x2.sf), fun hi => by
    rw [zipD_len] at hi
    refine ⟨vs, ws, SqL.of (x2.keep _ _ n1 ha), SqL.of (x2.keep _ _ n2 hb), ?_⟩
    rw [ra.length, rb.length]
    omega⟩
theorem wk_zipLS {K : PySem.W.Frag} {F : Hp} {a b : Addr} {vs ws : List V} {xs ys : List P} (ha : F a = some (.lst vs)) (hb : F b = some (.lst ws)) (ra : RpA F vs xs) (rb : RpA F ws ys) : WalkS (Itz K a b) F (zipD xs ys) :=
  fun i F2 H2 s1 s2 => ⟨fun d hd => by
    obtain ⟨p, q, h1, h2, rfl⟩ := zipD_get hd
    obtain ⟨v, e1, r1⟩ := ra.get h1
    obtain ⟨w, e2, r2⟩ := rb.get h2
    have ka := SqL.of (K := K) (s2 _ _ (s1 _ _ ha))
    have kb := SqL.of (K := K) (s2 _ _ (s1 _ _ hb))
    refine ⟨⟨vs, ws, v, w, ka, kb, e1, e2⟩, fun y H3 hy => ?_⟩
    obtain ⟨T, y1, y2, rfl, hT, rfl, f1, f2⟩ := hy
    have g1 := f1 vs ka
    have g2 := f2 ws kb
    rw [e1] at g1
    rw [e2] at g2
    cases g1
    cases g2
    exact pair_new s2 hT (r1.mono s1) (r2.mono s1), fun hi => by
    rw [zipD_len] at hi
    refine ⟨vs, ws, SqL.of (s2 _ _ (s1 _ _ ha)), SqL.of (s2 _ _ (s1 _ _ hb)), ?_⟩
    rw [ra.length, rb.length]
    omega⟩
theorem wk_zipTS {K : PySem.W.Frag} {F : Hp} {a b : Addr} {vs ws : List V} {xs ys : List P} (ha : F a = some (.tup vs)) (hb : F b = some (.tup ws)) (ra : RpA F vs xs) (rb : RpA F ws ys) : WalkS (RZ.ItzT K a b) F (zipD xs ys) :=
  fun i F2 H2 s1 s2 => ⟨fun d hd => by
    obtain ⟨p, q, h1, h2, rfl⟩ := zipD_get hd
    obtain ⟨v, e1, r1⟩ := ra.get h1
    obtain ⟨w, e2, r2⟩ := rb.get h2
    have ka := SqT.of (K := K) (s2 _ _ (s1 _ _ ha))
    have kb := SqT.of (K := K) (s2 _ _ (s1 _ _ hb))
    refine ⟨⟨vs, ws, v, w, ka, kb, e1, e2⟩, fun y H3 hy => ?_⟩
    obtain ⟨T, y1, y2, rfl, hT, rfl, f1, f2⟩ := hy
    have g1 := f1 vs ka
    have g2 := f2 ws kb
    rw [e1] at g1
    rw [e2] at g2
    cases g1
    cases g2
    exact pair_new s2 hT (r1.mono s1) (r2.mono s1), fun hi => by
    rw [zipD_len] at hi
    refine ⟨vs, ws, SqT.of (s2 _ _ (s1 _ _ ha)), SqT.of (s2 _ _ (s1 _ _ hb)), ?_⟩
    rw [ra.length, rb.length]
    omega⟩
theorem RpM.tupN {F H : Hp} {m : Mo} {v : V} {ds : List P} (r : RpM bo F H m v (.tuple ds)) : Rp F v (.tuple ds) := by
  cases m <;> exact r
def zip2 : List P → Option (List P)
  | [x, y] => zipV x y
  | _ => none
theorem spi_zip {a a2 : Expr} {p pos tpos : Pos} {elts : List Expr} {kk : Nat} {gs : Env → Bx → R P} {st : Bool} {m : Mo} (hg : Gl X "zip") (hm : X.mg "zip" = none) (ha : PA X [a, a2] (liftA bo H0 cs W m gs)) (hst : notStar a = true) (hp : allPlain [a2] = true) (hms : st = true → m = .n) :
    PI X (.Tuple elts kk tpos) (.Call (.Name "zip" p) [a, a2] [] pos) (liftI bo H0 cs W st fun e b => (gs e b).bind fun ds b1 => R.ofO ((zip2 (argsOf ds)).map .list) b1) :=
  PI.imp (RZ.pi_zipA hg hm ha (starEach_of hst) (noStars hp)) fun σ H Rr h => liftI_args (m := m) h fun ds xs vs F1 H1 s1 r hf k => by
    unfold zip2 at hf
    split at hf
    · rename_i d d'
      cases r with
      | cons r1 t =>
        cases t with
        | cons r2 t =>
          cases t
          unfold zipV at hf
          split at hf
          · cases hf
            cases m with
            | n =>
              cases (show Rp F1 _ (.list _) from r1) with
              | lst h1 q1 =>
                cases (show Rp F1 _ (.list _) from r2) with
                | lst h2 q2 =>
                  have wk := wk_zipLS (K := X.K) h1 h2 q1 q2
                  exact ⟨_, _, _, _, rfl, .inl ⟨SqL.of (s1 _ _ h1), SqL.of (s1 _ _ h2), k _ (fun _ => wk) wk.w⟩⟩
            | r =>
              obtain ⟨a1, v1, rfl, n1, h1, q1⟩ := (show RpR bo F1 H1 _ (.list _) from r1)
              obtain ⟨a2, v2, rfl, n2, h2, q2⟩ := (show RpR bo F1 H1 _ (.list _) from r2)
              exact ⟨a1, a2, v1, v2, rfl, .inl ⟨SqL.of h1, SqL.of h2, k _ (fun z => by cases hms z) (wk_zipL n1 n2 h1 h2 q1 q2)⟩⟩
          · cases hf
            have r1 := RpM.tupN r1
            have r2 := RpM.tupN r2
            cases r1 with
            | tup h1 q1 =>
              cases r2 with
              | tup h2 q2 =>
                have wk := wk_zipTS (K := X.K) h1 h2 q1 q2
                exact ⟨_, _, _, _, rfl, .inr ⟨SqT.of (s1 _ _ h1), SqT.of (s1 _ _ h2), k _ (fun _ => wk) wk.w⟩⟩
          · cases hf
    · cases hf
theorem enum_len : ∀ {k : Int} {xs : List P}, (enumFrom k xs).length = xs.length
  | _, [] => rfl
  | k, x :: xs => congrArg (· + 1) (enum_len (k := k + 1) (xs := xs))
theorem enum_get : ∀ {k : Int} {xs : List P} {i : Nat} {d : P}, (enumFrom k xs)[i]? = some d → ∃ x, xs[i]? = some x ∧ d = .tuple [.int (k + i), x]
  | k, x :: xs, 0, d, h => by
    cases h
    exact ⟨x, rfl, by simp⟩
  | k, x :: xs, i + 1, d, h => by
    obtain ⟨y, e, rfl⟩ := enum_get (k := k + 1) (xs := xs) (i := i) h
    refine ⟨y, e, ?_⟩
    congr 3
    omega
theorem wk_enum {K : PySem.W.Frag} {F H : Hp} {a : Addr} {vs : List V} {xs : List P} (n1 : some a ≠ bo) (ha : H a = some (.lst vs)) (ra : RpA F vs xs) : WalkW (Ite K a) bo F H (enumFrom 0 xs) :=
  fun i F2 H2 x2 => ⟨fun d hd => by
    obtain ⟨p, h1, rfl⟩ := enum_get hd
    obtain ⟨v, e1, r1⟩ := ra.get h1
    have ka := SqL.of (K := K) (x2.keep _ _ n1 ha)
    refine ⟨⟨vs, v, ka, e1⟩, fun y H3 hy => ?_⟩
    obtain ⟨T, y1, rfl, hT, rfl, f1⟩ := hy
    have g1 := f1 vs ka
    rw [e1] at g1
    cases g1
    rw [Int.zero_add]
    exact pair_new x2.sub hT (.int _) (r1.mono x2.sf), fun hi => by
    rw [enum_len] at hi
    exact ⟨vs, SqL.of (x2.keep _ _ n1 ha), by rw [ra.length]; omega⟩⟩
theorem wk_enumS {K : PySem.W.Frag} {F : Hp} {a : Addr} {vs : List V} {xs : List P} (ha : F a = some (.lst vs)) (ra : RpA F vs xs) : WalkS (Ite K a) F (enumFrom 0 xs) :=
  fun i F2 H2 s1 s2 => ⟨fun d hd => by
    obtain ⟨p, h1, rfl⟩ := enum_get hd
    obtain ⟨v, e1, r1⟩ := ra.get h1
    have ka := SqL.of (K := K) (s2 _ _ (s1 _ _ ha))
    refine ⟨⟨vs, v, ka, e1⟩, fun y H3 hy => ?_⟩
    obtain ⟨T, y1, rfl, hT, rfl, f1⟩ := hy
    have g1 := f1 vs ka
    rw [e1] at g1
    cases g1
    rw [Int.zero_add]
    exact pair_new s2 hT (.int _) (r1.mono s1), fun hi => by
    rw [enum_len] at hi
    exact ⟨vs, SqL.of (s2 _ _ (s1 _ _ ha)), by rw [ra.length]; omega⟩⟩
theorem wk_entS {K : PySem.W.Frag} {F : Hp} {a : Addr} {vs : List V} {xs : List P} (ha : F a = some (.tup vs)) (ra : RpA F vs xs) : WalkS (IteT K a) F (enumFrom 0 xs) :=
  fun i F2 H2 s1 s2 => ⟨fun d hd => by
    obtain ⟨p, h1, rfl⟩ := enum_get hd
    obtain ⟨v, e1, r1⟩ := ra.get h1
    have ka := SqT.of (K := K) (s2 _ _ (s1 _ _ ha))
    refine ⟨⟨vs, v, ka, e1⟩, fun y H3 hy => ?_⟩
    obtain ⟨T, y1, rfl, hT, rfl, f1⟩ := hy
    have g1 := f1 vs ka
    rw [e1] at g1
    cases g1
    rw [Int.zero_add]
    exact pair_new s2 hT (.int _) (r1.mono s1), fun hi => by
    rw [enum_len] at hi
    exact ⟨vs, SqT.of (s2 _ _ (s1 _ _ ha)), by rw [ra.length]; omega⟩⟩
def enum1 : List P → Option (List P)
  | [x] => enumV x
  | _ => none
theorem spi_enum {a : Expr} {p pos tpos : Pos} {elts : List Expr} {kk : Nat} {gs : Env → Bx → R P} {st : Bool} {m : Mo} (hg : Gl X "enumerate") (hm : X.mg "enumerate" = none) (ha : PA X [a] (liftA bo H0 cs W m gs)) (hst : notStar a = true) (hms : st = true → m = .n) :
    PI X (.Tuple elts kk tpos) (.Call (.Name "enumerate" p) [a] [] pos) (liftI bo H0 cs W st fun e b => (gs e b).bind fun ds b1 => R.ofO ((enum1 (argsOf ds)).map .list) b1) :=
  PI.imp (pi_enum2 hg hm ha (starEach_of hst)) fun σ H Rr h => liftI_args (m := m) h fun ds xs vs F1 H1 s1 r hf k => by
    unfold enum1 at hf
    split at hf
    · rename_i d
      cases r with
      | cons r1 t =>
        cases t
        unfold enumV at hf
        split at hf
        · cases hf
          cases m with
          | n =>
            cases (show Rp F1 _ (.list _) from r1) with
            | lst h1 q1 =>
              have wk := wk_enumS (K := X.K) h1 q1
              exact ⟨_, _, rfl, .inl ⟨SqL.of (s1 _ _ h1), k _ (fun _ => wk) wk.w⟩⟩
          | r =>
            obtain ⟨a1, v1, rfl, n1, h1, q1⟩ := (show RpR bo F1 H1 _ (.list _) from r1)
            exact ⟨_, _, rfl, .inl ⟨SqL.of h1, k _ (fun z => by cases hms z) (wk_enum n1 h1 q1)⟩⟩
        · cases hf
          have r2 := RpM.tupN r1
          cases r2 with
          | tup h1 q1 =>
            have wk := wk_entS (K := X.K) h1 q1
            exact ⟨_, _, rfl, .inr ⟨SqT.of (s1 _ _ h1), k _ (fun _ => wk) wk.w⟩⟩
        · cases hf
    · cases hf
end
end Dv
/-! text DC -/
set_option Elab.async false
set_option linter.all false
set_option maxRecDepth 100000
set_option maxHeartbeats 4000000
namespace Dv
open PySem PySem.Spec PyProof.Rows L2
/-! ### calls with keywords -/
def KwB (fd : FuncData) (ps : List Str) (n : Nat) (ks : List Str) (pm : List Nat) : Prop := ∀ us ws : List Value, us.length = n → ws.length = ks.length → bindArgs fd ⟨us, ks.zip ws⟩ = pure (ps.zip (kperm pm (us ++ ws)))
def FnK (X : Cx) (cs : Cls') (x : Str) (fr : Bool) (np n : Nat) (ks : List Str) (pm : List Nat) (g : List P → Bx → R P) : Prop :=
  ∃ (fa : Addr) (fd : FuncData) (ps : List Str) (k : Nat), X.mg x = some (.ref fa) ∧ PySem.W.keepIn X.K (.ref fa) = true ∧ FnOk X.prog X.w X.K X.mg X.base (L2.CX X.prog X.w) k fa fd ps (spOf cs false fr np g) ∧ KwB fd ps n ks pm ∧ Room k X.A
theorem kperm_vals {vs : List V} {us : List Value} (r : Vals vs us) : ∀ pm : List Nat, Vals (kperm pm vs) (kperm pm us)
  | [] => .nil
  | i :: pm => by
    unfold kperm
    rw [List.filterMap_cons, List.filterMap_cons]
    cases q : vs[i]? with
    | none =>
      rw [Vals.none_of r q]
      exact kperm_vals r pm
    | some v =>
      obtain ⟨u, e, ru⟩ := Vals.get r q
      rw [e]
      exact .cons ru (kperm_vals r pm)
theorem kperm_rp {F : Hp} {vs : List V} {ds : List P} (r : RpA F vs ds) : ∀ pm : List Nat, RpA F (kperm pm vs) (kperm pm ds)
  | [] => .nil
  | i :: pm => by
    unfold kperm
    rw [List.filterMap_cons, List.filterMap_cons]
    cases q : ds[i]? with
    | none =>
      have : vs[i]? = none := by
        rw [List.getElem?_eq_none_iff, r.length]
        exact List.getElem?_eq_none_iff.mp q
      rw [this]
      exact kperm_rp r pm
    | some d =>
      obtain ⟨v, e, rv⟩ := r.get q
      rw [e]
      exact .cons rv (kperm_rp r pm)
section
variable {X : Cx} {bo : Option Addr} {H0 : Hp} {cs : Cls'} {W : WX}
theorem run_fnSK {E : L2.St → XK} {k : Nat} {f : Addr} {fd : FuncData} {ps ks : List Str} {sp : Sp} {n : Nat} {pm : List Nat} {pins : List (Addr × Obj)} {σ : L2.St} {H : Hp} {s : Shared} {Q : VK} {us ws : List Value} {vs zs : List V} (F : FnOk X.prog X.w X.K X.mg X.base (L2.CX X.prog X.w) k f fd ps sp) (hr : Room k X.A) (hb : KwB fd ps n ks pm) (hx : PassesAt (L2.CX X.prog X.w) X σ (E σ))
    (I : Inv X pins σ H s) (r : Vals vs us) (rz : Vals zs ws) (l1 : vs.length = n) (l2 : zs.length = ks.length) (h : sp (kperm pm (vs ++ zs)) H Q (E σ)) : wpAny (model X.prog X.w) X.A (call (.ref f) us (ks.zip ws)) (EP X pins σ Q) X.xe s := by
  have b : BindsTo s fd ⟨us, ks.zip ws⟩ (ps.zip (kperm pm (us ++ ws))) := .of_eq (hb us ws (by rw [← r.length]; exact l1) (by rw [← rz.length]; exact l2))
  refine wpAny_call (codeAny_mono (F.run X.A X.stack s H ⟨us, ks.zip ws⟩ (kperm pm (us ++ ws)) (kperm pm (vs ++ zs)) Q (E σ) hr I.env0 b (kperm_vals (r.append rz) pm) h) fun r s' hq => ?_)
  cases r with
  | error e => exact hx pins H s e s' I hq
  | ok fl =>
    cases fl with
    | ret u => exact I.after hq
    | next => exact False.elim hq
    | brk => exact False.elim hq
    | cont => exact False.elim hq
def tCallSK (n m : Nat) (pm : List Nat) (sp : Sp) (E : L2.St → XK) (t tk : TA) : TE := fun σ H Q => t σ H fun vs H1 => tk σ H1 fun zs H2 => vs.length = n ∧ zs.length = m ∧ sp (kperm pm (vs ++ zs)) H2 Q (E σ)
theorem kwOk {pos : Pos} {env : PySem.Env} : ∀ {kws : List Keyword} {ks : List Str}, kws.map Keyword.arg = ks.map some → (backToKw pos (keywordEach kws env)).all (·.1.isSome) = true ∧ (backToKw pos (keywordEach kws env)).filterMap (·.1) = ks ∧ (backToKw pos (keywordEach kws env)).any (·.1.isNone) = false
  | [], [], _ => ⟨rfl, rfl, rfl⟩
  | [], _ :: _, h => by cases h
  | _ :: _, [], h => by cases h
  | ⟨a, e, p⟩ :: kws, k :: ks, h => by
    rw [List.map_cons, List.map_cons] at h
    injection h with h1 h2
    have h1 : a = some k := h1
    subst h1
    obtain ⟨q1, q2, q3⟩ := kwOk (pos := pos) (env := env) h2
    refine ⟨?_, ?_, ?_⟩
    · show (true && (backToKw pos (keywordEach kws env)).all (·.1.isSome)) = true
      rw [q1]
      rfl
    · show k :: (backToKw pos (keywordEach kws env)).filterMap (·.1) = k :: ks
      rw [q2]
    · show (false || (backToKw pos (keywordEach kws env)).any (·.1.isNone)) = false
      rw [q3]
      rfl
theorem pe_callSK {E : L2.St → XK} {k : Nat} {f : Addr} {fd : FuncData} {ps ks : List Str} {sp : Sp} {n : Nat} {pm : List Nat} {x : Str} {p pos : Pos} {es : List Expr} {kws : List Keyword} {t tk : TA} (F : FnOk X.prog X.w X.K X.mg X.base (L2.CX X.prog X.w) k f fd ps sp) (hr : Room k X.A) (hg : Gl X x) (hm : X.mg x = some (.ref f)) (hk : PySem.W.keepIn X.K (.ref f) = true) (hb : KwB fd ps n ks pm) (hx : ∀ σ, PassesAt (L2.CX X.prog X.w) X σ (E σ))
    (ha : PA X es t) (hkw : PK X kws tk) (hks : kws.map Keyword.arg = ks.map some) (hdb : (x == ("__debug__" : Str)) = false) (hp : (!es.isEmpty && allPlain es) = true) : PE X (.Call (.Name x p) es kws pos) (tCallSK n ks.length pm sp E t tk) := by
  obtain ⟨k1, k2, k3⟩ := kwOk (pos := pos) (env := X.env) hks
  refine ⟨fun pins s σ H Q I h => ?_⟩
  refine wpAny_Call_Name_kw (ld_glob I hg hm ?_ hdb)
  cases es with
  | nil =>
    cases hp
  | cons e es =>
    have hp : allPlain (e :: es) = true := hp
    unfold allPlain at hp
    rw [List.all_cons, Bool.and_eq_true] at hp
    refine PySem.W.callWith_KW (h₀ := X.base) I.ok.mod.kin hk k1 (thn (ha.run pos pins s σ H _ I h) fun us s1 ⟨vs, H1, I1, r, q⟩ => ?_) ?_ (starEach_of hp.1)
    · refine thn (hkw.run pos pins s1 σ H1 _ I1 q) fun ws s2 ⟨zs, H2, I2, rz, l1, l2, q2⟩ => ⟨I2.kIn, ?_⟩
      rw [k2]
      exact run_fnSK F hr hb (hx σ) I2 r rz l1 l2 q2
    · rw [k3, Bool.or_false]
      exact noStars (es := e :: es) (by unfold allPlain; rw [List.all_cons, hp.1, hp.2] <;> rfl)
theorem pe_callSK0 {E : L2.St → XK} {k : Nat} {f : Addr} {fd : FuncData} {ps ks : List Str} {sp : Sp} {pm : List Nat} {x : Str} {p pos : Pos} {kws : List Keyword} {tk : TA} (F : FnOk X.prog X.w X.K X.mg X.base (L2.CX X.prog X.w) k f fd ps sp) (hr : Room k X.A) (hg : Gl X x) (hm : X.mg x = some (.ref f)) (hk : PySem.W.keepIn X.K (.ref f) = true) (hb : KwB fd ps 0 ks pm) (hx : ∀ σ, PassesAt (L2.CX X.prog X.w) X σ (E σ))
    (hkw : PK X kws tk) (hks : kws.map Keyword.arg = ks.map some) (hdb : (x == ("__debug__" : Str)) = false) : PE X (.Call (.Name x p) [] kws pos) (tCallSK 0 ks.length pm sp E tNil tk) := by
  obtain ⟨k1, k2, k3⟩ := kwOk (pos := pos) (env := X.env) hks
  refine ⟨fun pins s σ H Q I h => ?_⟩
  refine wpAny_Call_Name_kw (ld_glob I hg hm ?_ hdb)
  refine PySem.W.callWith_KW0 (h₀ := X.base) I.ok.mod.kin hk k1 ?_ (by rw [k3] <;> rfl)
  have h : tk σ H fun zs H2 => ([] : List V).length = 0 ∧ zs.length = ks.length ∧ sp (kperm pm ([] ++ zs)) H2 Q (E σ) := h
  refine thn (hkw.run pos pins s σ H _ I h) fun ws s2 ⟨zs, H2, I2, rz, l1, l2, q2⟩ => ⟨I2.kIn, ?_⟩
  rw [k2]
  exact run_fnSK F hr hb (hx σ) I2 .nil rz l1 l2 q2
theorem PK.imp {kws : List Keyword} {t u : TA} (h : PK X kws t) (i : ∀ σ H Q, u σ H Q → t σ H Q) : PK X kws u := ⟨fun pos pins s σ H Q I q => h.run pos pins s σ H Q I (i σ H Q q)⟩
theorem spk_nil {m : Mo} : PK X [] (liftA bo H0 cs W m fun _ b => .ok (.list []) b) := PK.imp pk_nil fun σ H Q ⟨e, b, F, p, h⟩ => h [] F H (Ext.refl p.sub) p.box .nil
theorem spk_cons {m : Mo} {ov fr : Bool} {nm : Option Str} {kp : Pos} {e : Expr} {es : List Keyword} {ga gs : Env → Bx → R P} (ha : Snd X bo H0 cs W ov fr e ga) (hm : m = .n → ov = false) (hs : PK X es (liftA bo H0 cs W m gs)) :
    PK X (⟨nm, e, kp⟩ :: es) (liftA bo H0 cs W m fun e b => (ga e b).bind fun d b1 => (gs e b1).bind fun ds b2 => .ok (.list (d :: argsOf ds)) b2) :=
  PK.imp (pk_cons (ha.m m hm) hs) fun σ H Q ⟨e, b, F, p, h⟩ => ⟨e, b, F, p, finA_bind p h fun d b1 v F1 H1 p1 x1 r1 h1 => ⟨e, b1, F1, p1, finA_bindA p1 h1 fun ds b2 vs F2 H2 p2 x2 r2 h2 => h2 (v :: vs) F2 H2 (Ext.refl p2.sub) p2.box (.cons (RpM.mono x2 r1) r2)⟩⟩
theorem snd_callSK {ov fr : Bool} {x : Str} {np n : Nat} {ks : List Str} {pm : List Nat} {g : List P → Bx → R P} {es : List Expr} {kws : List Keyword} {p pos : Pos} {ga gk : Env → Bx → R P} (tk : Takes X W) (F : FnK X cs x fr np n ks pm g) (hg : Gl X x) (ha : PA X es (liftA bo H0 cs W .n ga)) (hkw : PK X kws (liftA bo H0 cs W .n gk)) (hks : kws.map Keyword.arg = ks.map some) (hdb : (x == ("__debug__" : Str)) = false)
    (hp : allPlain es = true) (hl1 : es.length = n) (hnil : es = [] → ga = fun _ b => .ok (.list []) b) (hlen : ∀ en b d b', ga en b = .ok d b' → (argsOf d).length = n) (hlen2 : ∀ en b d b', gk en b = .ok d b' → (argsOf d).length = ks.length) (hpm : pm.length = np) (hpb : pm.all (· < n + ks.length) = true) :
    Snd X bo H0 cs W ov fr (.Call (.Name x p) es kws pos) fun e b => (ga e b).bind fun ds b1 => (gk e b1).bind fun ds2 b2 => match g (kperm pm (argsOf ds ++ argsOf ds2)) b0 with
      | .ok d _ => .ok d b2
      | .ex c d _ => .ex c d b2
      | .no => .no := by
  obtain ⟨fa, fd, ps, k, hm, hk, F, hb, hr⟩ := F
  have key : ∀ {en : Env} {bq : Bx} {σ : L2.St} {H : Hp} {Q : VK} {F2 : Hp} {H2 : Hp} {ds ds2 : P} {b2 : Bx} {vs zs : List V}, Pre bo H0 σ H2 en b2 F2 → RpA F2 vs (argsOf ds) → RpA F2 zs (argsOf ds2) → (argsOf ds).length = n → (argsOf ds2).length = ks.length →
      fin bo cs W (lR fr bo) σ F2 H2 (match g (kperm pm (argsOf ds ++ argsOf ds2)) b0 with
        | .ok d _ => R.ok d b2
        | .ex c d _ => .ex c d b2
        | .no => .no) Q → spOf cs false fr np g (kperm pm (vs ++ zs)) H2 Q (WE W σ) := by
    intro en bq σ H Q F2 H2 ds ds2 b2 vs zs p2 ra rz l1 l2 h
    refine ⟨?_, none, F2, b0, _, _, (fun w => nomatch w), fun _ => ⟨rfl, rfl⟩, p2.sub, (fun β w => nomatch w), kperm_rp (ra.append rz) pm, none_in (F' := F2) (H' := H2) (b2 := b2) p2.box h⟩
    rw [← hpm]
    have hb' : ∀ i ∈ pm, i < (vs ++ zs).length := fun i hi => by
      have := of_decide_eq_true (List.all_eq_true.mp hpb i hi)
      rw [List.length_append, ra.length, rz.length, l1, l2]
      exact this
    clear h hpm hpb hb
    induction pm with
    | nil => rfl
    | cons i pm ih =>
      unfold kperm
      rw [List.filterMap_cons]
      have hi := hb' i List.mem_cons_self
      rw [List.getElem?_eq_getElem hi]
      exact congrArg (· + 1) (ih fun j hj => hb' j (List.mem_cons_of_mem _ hj))
  cases es with
  | nil =>
    have e0 := hnil rfl
    subst e0
    subst hl1
    refine Snd.of_R (PE.imp (pe_callSK0 F hr hg hm hk hb (fun σ => passAt tk σ) hkw hks hdb) fun σ H Q ⟨en, b, F, p, h⟩ => ?_) rfl
    show liftA bo H0 cs W .n gk σ H fun zs H2 => ([] : List V).length = 0 ∧ zs.length = ks.length ∧ spOf cs false fr np g (kperm pm ([] ++ zs)) H2 Q (WE W σ)
    have h : fin bo cs W (lR fr bo) σ F H ((gk en b).bind fun ds2 b2 => match g (kperm pm (argsOf (.list []) ++ argsOf ds2)) b0 with
      | .ok d _ => .ok d b2
      | .ex c d _ => .ex c d b2
      | .no => .no) Q := h
    refine ⟨en, b, F, p, ?_⟩
    have hl := hlen2 en b
    cases q : gk en b with
    | no => rw [q] at h; exact h
    | ex c d b1 => rw [q] at h; exact h
    | ok ds2 b1 =>
      rw [q] at h
      intro zs F1 H1 x z r
      have rz := Paired.rpA r
      have h1 := fin_step (Rl := lR fr bo) (fun F' H' v d => hRR H H1 F' H' v d) z x h
      exact ⟨rfl, by rw [rz.length, hl ds2 b1 q], key (en := en) (bq := b1) (H := H1) (ds := .list []) (p.step x z) .nil rz rfl (hl ds2 b1 q) h1⟩
  | cons e es =>
    refine Snd.of_R (PE.imp (pe_callSK F hr hg hm hk hb (fun σ => passAt tk σ) ha hkw hks hdb (by rw [hp] <;> rfl)) fun σ H Q ⟨en, b, F, p, h⟩ => ⟨en, b, F, p, ?_⟩) rfl
    have hl := hlen en b
    dsimp only at h
    cases q : ga en b with
    | no => rw [q] at h; exact h
    | ex c d b1 => rw [q] at h; exact h
    | ok ds b1 =>
      rw [q] at h
      intro vs F1 H1 x z r
      have ra := Paired.rpA r
      have p1 := p.step x z
      have h1 := fin_step (Rl := lR fr bo) (fun F' H' v d => hRR H H1 F' H' v d) z x h
      refine ⟨en, b1, F1, p1, ?_⟩
      have h1 : fin bo cs W (lR fr bo) σ F1 H1 ((gk en b1).bind fun ds2 b2 => match g (kperm pm (argsOf ds ++ argsOf ds2)) b0 with
        | .ok d _ => .ok d b2
        | .ex c d _ => .ex c d b2
        | .no => .no) Q := h1
      have hl2 := hlen2 en b1
      cases q2 : gk en b1 with
      | no => rw [q2] at h1; exact h1
      | ex c d b1 => rw [q2] at h1; exact h1
      | ok ds2 b2 =>
        rw [q2] at h1
        intro zs F2 H2 x2 z2 r2
        have rz := Paired.rpA r2
        have h2 := fin_step (Rl := lR fr bo) (fun F' H' v d => hRR H1 H2 F' H' v d) z2 x2 h1
        exact ⟨by rw [ra.length, hl ds b1 q], by rw [rz.length, hl2 ds2 b2 q2], key (en := en) (bq := b2) (H := H2) (p1.step x2 z2) (ra.mono x2.sf) rz (hl ds b1 q) (hl2 ds2 b2 q2) h2⟩
/-! ### x.strip(y) -/
theorem strip_inv {a : Str} {ds : List P} {z : P} (h : mthD .strip (.str a) ds = some z) : ∃ c, ds = [.str c] ∧ z = .str (Txt.stripChars a c) ∧ a.length ≤ line := by
  match ds, h with
  | [], h => cases h
  | [.str c], h =>
    have h : (if a.length ≤ line then some (PyData.str (Txt.stripChars a c)) else none) = some z := h
    split at h
    · rename_i hl
      cases h
      exact ⟨_, rfl, rfl, hl⟩
    · cases h
  | [.none], h => cases h
  | [.bool _], h => cases h
  | [.int _], h => cases h
  | [.list _], h => cases h
  | [.tuple _], h => cases h
  | [.dict _], h => cases h
  | d :: d2 :: ds, h => cases d <;> cases h
theorem snd_strip {ov o1 f1 fr : Bool} {e e2 : Expr} {pa pos : Pos} {g g2 : Env → Bx → R P} (he : Snd X bo H0 cs W o1 f1 e g) (h2 : PA X [e2] (liftA bo H0 cs W .n g2)) (hst : notStar e2 = true) (hl : (pa.endLine == pos.line) = true) (hbase : attributeBase e "strip" X.env (eval e X.env) = eval e X.env) :
    Snd X bo H0 cs W ov fr (.Call (.Attribute e "strip" pa) [e2] [] pos) fun e b => (g e b).bind fun d b1 => if mOk .strip d then (g2 e b1).bind fun ds b2 => R.ofO (mthD .strip d (argsOf ds)) b2 else .no :=
  Snd.of_f (PE.imp (pe_bm PySem.F.plainAttrs_str PySem.F.slot_str_strip PySem.F.type_str_strip L2.mt_stripChars he.r h2 hbase (by rw [starEach_of hst] <;> rfl) hl (starEach_of hst) (by rfl)) fun σ H Q ⟨e, b, F, p, h⟩ => ⟨e, b, F, p, fin_bind hRFf p h fun d b1 v F1 H1 p1 x1 r1 h1 => by
    cases d with
    | str a =>
      have ev := RpR.str (bo := bo) (H := H1) r1
      subst ev
      rw [if_pos (by rfl)] at h1
      refine ⟨rfl, e, b1, F1, p1, fin_bindA hRFf p1 h1 fun d2 b2 vs F2 H2 p2 x2 r2 h2 => ?_⟩
      generalize hds : argsOf d2 = ds at r2 h2
      cases hm : mthD .strip (.str a) ds with
      | none =>
        rw [hm] at h2
        exact h2.elim
      | some z =>
        rw [hm] at h2
        obtain ⟨c, rfl, rfl, hl⟩ := strip_inv hm
        cases r2 with
        | cons r t =>
          cases t
          cases r
          exact ⟨_, c, rfl, rfl, by rw [← line_eq]; exact hl, h2 _ F2 H2 (Ext.refl p2.sub) p2.box (Flt.str _).fr⟩
    | _ => exact h1.elim⟩) rfl
/-! ### tuple(range(..)), list(range(..)) -/
theorem Snd.congr {ov fr : Bool} {e : Expr} {g g' : Env → Bx → R P} (h : Snd X bo H0 cs W ov fr e g) (q : ∀ en b, g en b = g' en b) : Snd X bo H0 cs W ov fr e g' := by
  have : g = g' := funext fun en => funext fun b => q en b
  rw [← this]
  exact h
theorem rg_rp {F : Hp} : ∀ {lo : Int} {n : Nat}, RpA F ((List.range n).map fun i => V.int (lo + (i : Nat))) (rngUp lo n)
  | _, 0 => .nil
  | lo, n + 1 => by
    rw [List.range_succ_eq_map, List.map_cons, List.map_map]
    have ih := rg_rp (F := F) (lo := lo + 1) (n := n)
    have e : ((fun i : Nat => V.int (lo + (i : Nat))) ∘ Nat.succ) = fun i : Nat => V.int (lo + 1 + (i : Nat)) := by
      funext i
      show V.int (lo + ((i + 1 : Nat) : Int)) = _
      congr 1
      omega
    rw [e]
    refine .cons ?_ ih
    have : V.int (lo + ((0 : Nat) : Int)) = V.int lo := by simp
    rw [this]
    exact .int lo
def mkRg (tp : Bool) (xs : List P) : P := if tp then .tuple xs else .list xs
abbrev gRg (tp : Bool) (o : Option (List P)) (b : Bx) : R P := match o with
  | some xs => if xs.length ≤ line then .ok (mkRg tp xs) b else .no
  | none => .no
theorem rg_fin {tp : Bool} {σ : L2.St} {F H : Hp} {en : Env} {b : Bx} {Q : VK} {lo hi : Int} (p : Pre bo H0 σ H en b F) (i1 : int62 lo = true) (i2 : int62 hi = true) (h : fin bo cs W (lF bo) σ F H (gRg tp (some (rngUp lo (hi - lo).toNat)) b) Q) :
    RgOk lo hi ∧ ∀ q, H q = none → Q (.ref q) (upd H q (if tp then .tup (rgV lo hi) else .lst (rgV lo hi))) := by
  dsimp only [gRg] at h
  split at h
  · rename_i hl
    rw [rngUp_len] at hl
    obtain ⟨a1, a2⟩ := int62_iff i1
    obtain ⟨a3, a4⟩ := int62_iff i2
    refine ⟨⟨a1, a2, a3, a4, hl⟩, fun q hq => ?_⟩
    cases tp with
    | true =>
      obtain ⟨F2, m1, m2⟩ := made_tup (F := F) p.sub hq (rg_rp (lo := lo) (n := (hi - lo).toNat))
      exact h _ F2 _ m1.of_none (m1.box p.box) m2
    | false =>
      obtain ⟨m1, m2⟩ := made_lst (F := F) p.sub p.box hq (rg_rp (lo := lo) (n := (hi - lo).toNat))
      exact h _ F _ m1.of_none (m1.box p.box) m2
  · exact h.elim
def rng12 : List P → Option (List P)
  | [.int j] => if int62 j then some (rngUp 0 j.toNat) else none
  | [.int i, .int j] => if int62 i && int62 j then some (rngUp i (j - i).toNat) else none
  | _ => none
theorem rng12_eq {ds : List P} (h : ds.length ≤ 2) : rng12 ds = rngD ds := by
  match ds, h with
  | [], _ => rfl
  | [d], _ => cases d <;> rfl
  | [d, d2], _ => cases d <;> cases d2 <;> rfl
/-- range(..) of one or two ints -/
theorem prgA {a : Expr} {as : List Expr} {p pos : Pos} {t : TA} (hg : Gl X "range") (hm : X.mg "range" = none) (ha : PA X (a :: as) t) (hst : notStar a = true) (hp : allPlain as = true) :
    PRg X (.Call (.Name "range" p) (a :: as) [] pos) fun σ H Q => t σ H fun vs H1 => (∃ n, vs = [.int n] ∧ Q 0 n H1) ∨ ∃ i j, vs = [.int i, .int j] ∧ Q i j H1 := by
  intro pins s σ H Q I h
  refine Call_ (ld_blt I hg hm boot_range (PyProof.Rows.callWith_type1 (thn (ha.run pos pins s σ H _ I h) fun us s1 ⟨vs, H1, I1, r1, q1⟩ => ?_) (starEach_of hst) (noStars hp)))
  rcases q1 with ⟨n, rfl, q⟩ | ⟨i, j, rfl, q⟩
  · cases r1 with
    | cons r t =>
      cases t
      obtain ⟨t, rfl⟩ := r
      exact call_range_1 ⟨_, 0, n, _, _, _, H1, rfl, IsRange.new _ _ _ _ _ _ _, I1.kept fun b u e => Heap.get?_push_of_some _ e, q⟩
  · cases r1 with
    | cons r t =>
      cases t with
      | cons r2 t =>
        cases t
        obtain ⟨t, rfl⟩ := r
        obtain ⟨t', rfl⟩ := r2
        exact call_range_2 ⟨_, i, j, _, _, _, H1, rfl, IsRange.new _ _ _ _ _ _ _, I1.kept fun b u e => Heap.get?_push_of_some _ e, q⟩
theorem rd_rgA {tp : Bool} {gs : Env → Bx → R P} : ∀ σ H Q, lift bo H0 cs W (lF bo) (fun e b => (gs e b).bind fun ds b1 => gRg tp (rng12 (argsOf ds)) b1) σ H Q → liftA bo H0 cs W .r gs σ H fun vs H1 => (∃ n, vs = [.int n] ∧ (RgOk 0 n ∧ ∀ q, H1 q = none → Q (.ref q) (upd H1 q (if tp then .tup (rgV 0 n) else .lst (rgV 0 n))))) ∨ ∃ i j, vs = [.int i, .int j] ∧ (RgOk i j ∧ ∀ q, H1 q = none → Q (.ref q) (upd H1 q (if tp then .tup (rgV i j) else .lst (rgV i j)))) := fun σ H Q ⟨e, b, F, p, h⟩ => ⟨e, b, F, p, fin_bindA hRFf p h fun d b1 vs F1 H1 p1 x1 r1 h1 => by
    generalize hds : argsOf d = ds at r1 h1
    unfold rng12 at h1
    split at h1
    · rename_i j
      split at h1
      · rename_i hj
        left
        have e0 : (j - 0).toNat = j.toNat := by rw [Int.sub_zero]
        rw [← e0] at h1
        exact ⟨j, one_int r1, rg_fin p1 (by decide) hj h1⟩
      · exact h1.elim
    · rename_i i j
      split at h1
      · rename_i hj
        rw [Bool.and_eq_true] at hj
        right
        exact ⟨i, j, two_int r1, rg_fin p1 hj.1 hj.2 h1⟩
      · exact h1.elim
    · exact h1.elim⟩
theorem snd_rgAt {ov fr : Bool} {a : Expr} {as : List Expr} {p p2 pos pos2 : Pos} {gs : Env → Bx → R P} (hc : X.calm = true) (hg : Gl X "tuple") (hm : X.mg "tuple" = none) (hg2 : Gl X "range") (hm2 : X.mg "range" = none) (ha : PA X (a :: as) (liftA bo H0 cs W .r gs)) (hst : notStar a = true) (hp : allPlain as = true) :
    Snd X bo H0 cs W ov fr (.Call (.Name "tuple" p) [.Call (.Name "range" p2) (a :: as) [] pos2] [] pos) fun e b => (gs e b).bind fun ds b1 => gRg true (rng12 (argsOf ds)) b1 :=
  Snd.of_f (PE.imp (pe_tupRg hc hg hm (prgA hg2 hm2 ha hst hp) rfl) fun σ H Q h => rd_rgA (tp := true) σ H Q h) rfl
theorem snd_rgAl {ov fr : Bool} {a : Expr} {as : List Expr} {p p2 pos pos2 : Pos} {gs : Env → Bx → R P} (hc : X.calm = true) (hg : Gl X "list") (hm : X.mg "list" = none) (hg2 : Gl X "range") (hm2 : X.mg "range" = none) (ha : PA X (a :: as) (liftA bo H0 cs W .r gs)) (hst : notStar a = true) (hp : allPlain as = true) :
    Snd X bo H0 cs W ov fr (.Call (.Name "list" p) [.Call (.Name "range" p2) (a :: as) [] pos2] [] pos) fun e b => (gs e b).bind fun ds b1 => gRg false (rng12 (argsOf ds)) b1 :=
  Snd.of_f (PE.imp (pe_listRg hc hg hm (prgA hg2 hm2 ha hst hp) rfl) fun σ H Q h => rd_rgA (tp := false) σ H Q h) rfl
end
end Dv
/-! text DT -/
set_option Elab.async false
set_option linter.all false
set_option maxRecDepth 100000
set_option maxHeartbeats 4000000
namespace Dv
open PySem PySem.Spec L2

/-! ### dicts: made, asked, walked -/
section
variable {X : Cx} {bo : Option Addr} {H0 : Hp} {cs : Cls'} {W : WX}
/-- a new dict, not frozen -/
theorem made_dct {F H : Hp} {b : Bx} {p : Addr} {u : HO} {ds : List (P × P)} (s : Same F H) (q : BoxRep bo F H b) (hp : H p = none) (r : DcO F u ds) :
    Ext none F H F (upd H p u) ∧ FrR bo H F (upd H p u) (.ref p) (.dict ds) := by
  have fp : F p = none := s.free hp
  refine ⟨⟨Same.refl _, fun c o hc => ?_, fun c o _ hc => ?_, fun c o h1 h2 => ?_⟩, p, u, rfl, fun z => ?_, hp, fp, upd_same, r⟩
  · rw [upd_ne (ne_of_none hc fp)]
    exact s _ _ hc
  · rw [upd_ne (ne_of_none hc hp)]
    exact hc
  · rw [h1] at h2
    cases h2
  · have := (q _ z.symm).2
    rw [hp] at this
    cases this
theorem snd_dnew {ov fr t : Bool} {pos : Pos} : Snd X bo H0 cs W ov fr (.Dict [] [] pos) fun _ b => .ok (.dict (if t then [tMark] else [])) b := by
  cases t with
  | true =>
    refine Snd.of_f (PE.imp pe_dnewT fun σ H Q ⟨e, b, F, p, h⟩ q hq => ?_) rfl
    obtain ⟨m1, m2⟩ := made_dct p.sub p.box hq (DcO.t (F := F) .nil)
    exact h _ F _ m1.of_none (m1.box p.box) m2
  | false =>
    refine Snd.of_f (PE.imp pe_dnewK fun σ H Q ⟨e, b, F, p, h⟩ q hq => ?_) rfl
    obtain ⟨m1, m2⟩ := made_dct p.sub p.box hq (DcO.k (F := F) .nil)
    exact h _ F _ m1.of_none (m1.box p.box) m2
theorem dcO_isD {F H : Hp} {a : Addr} {u : HO} {ds : List (P × P)} (h : H a = some u) (r : DcO F u ds) : IsD H a := by
  cases r with
  | k r => exact .inl ⟨_, .inl h⟩
  | t r => exact .inr ⟨_, .inl h⟩
  | kl r => exact .inl ⟨_, .inr ⟨_, h⟩⟩
  | tl r => exact .inr ⟨_, .inr ⟨_, h⟩⟩
/-- d.get(..), by its argument list -/
def tGetA (td : TE) (t : TA) : TE := fun σ H Q => td σ H fun x H1 => ∃ a, x = .ref a ∧ IsD H1 a ∧ t σ H1 fun vs H2 => (∃ y o, vs = [y] ∧ DGet H2 a y o ∧ Q (o.getD .non) H2) ∨ ∃ y z o, vs = [y, z] ∧ DGet H2 a y o ∧ Q (o.getD z) H2
theorem pe_getA {o e : Expr} {es : List Expr} {apos cpos : Pos} {td : TE} {t : TA} (hu : X.A.units + 1 < cLine) (ho : PE X o td) (ha : PA X (e :: es) t) (hbase : attributeBase o "get" X.env (eval o X.env) = eval o X.env)
    (hfew : ((backTo cpos (starEach (e :: es) X.env)).all (fun x => !x.1) && (backToKw cpos (keywordEach [] X.env)).all (fun x => x.1.isSome) && decide ((e :: es).length + ([] : List Keyword).length + (if ([] : List Keyword).isEmpty then 0 else 1) < 30)) = true)
    (hline : (apos.endLine == cpos.line) = true) (hs : starEach (e :: es) X.env = (false, eval e X.env) :: starEach es X.env) (hplain : (backTo cpos (starEach es X.env)).any (·.1) = false) :
    PE X (.Call (.Attribute o "get" apos) (e :: es) [] cpos) (tGetA td t) := by
  refine ⟨fun pn s σ H Q I h => ?_⟩
  refine wpAny_Call_method hbase hfew hline PySem.F.plainAttrs_dict PySem.F.slot_dict_get PySem.F.type_dict_get (thn (ho.run pn s σ H _ I h) fun u s1 ⟨x, H1, I1, rx, a, ex, d, q1⟩ => ?_)
  subst ex
  obtain rfl : u = Value.ref a := rx
  obtain ⟨t1, t2, _⟩ := isD_at I1 d
  refine ⟨t1, t2, ?_⟩
  have hA := ha.run cpos pn s1 σ H1 _ I1 q1
  rw [hs] at hA ⊢
  have hpl : ((false, eval e X.env) :: backTo cpos (starEach es X.env)).any (·.1) = false := by
    show (false || (backTo cpos (starEach es X.env)).any (·.1)) = false
    rw [hplain]
    rfl
  refine Calls.callWith_builtin hpl (Calls.evalArgs_plain (thn hA fun us s2 ⟨vs, H2, I2, r2, q2⟩ => ?_))
  rcases q2 with ⟨y, ov, rfl, g, q⟩ | ⟨y, z, ov, rfl, g, q⟩
  · cases r2 with
    | cons ry r3 =>
      cases r3
      exact d_get1 hu I2 g ry fun w' s3 I3 rw' => ⟨_, H2, I3, rw', q⟩
  · cases r2 with
    | cons ry r3 =>
      cases r3 with
      | cons rz r4 =>
        cases r4
        exact d_get2 hu I2 g ry rz fun w' s3 I3 rw' => ⟨_, H2, I3, rw', q⟩
theorem RpO.getD {F : Hp} {ov : Option V} {o : Option P} {v : V} {d : P} (r : RpO F ov o) (q : Rp F v d) : Rp F (ov.getD v) (o.getD d) := by
  cases ov with
  | none =>
    cases o with
    | none => exact q
    | some d => exact r.elim
  | some v =>
    cases o with
    | none => exact r.elim
    | some d => exact r
theorem get1_inv {ds : List (P × P)} {as : List P} {z : P} (h : mthD .get1 (.dict ds) as = some z) : ∃ k o, as = [k] ∧ dgetD (.dict ds) k = some o ∧ z = o.getD .none := by
  match as, h with
  | [], h => cases h
  | [k], h =>
    obtain ⟨o, h1, h2⟩ := Option.map_eq_some_iff.mp (show (dgetD (.dict ds) k).map (fun o => o.getD .none) = some z from h)
    exact ⟨k, o, rfl, h1, h2.symm⟩
  | _ :: _ :: _, h => cases h
theorem get2_inv {ds : List (P × P)} {as : List P} {z : P} (h : mthD .get2 (.dict ds) as = some z) : ∃ k x o, as = [k, x] ∧ dgetD (.dict ds) k = some o ∧ z = o.getD x := by
  match as, h with
  | [], h => cases h
  | [k], h => cases h
  | [k, x], h =>
    obtain ⟨o, h1, h2⟩ := Option.map_eq_some_iff.mp (show (dgetD (.dict ds) k).map (fun o => o.getD x) = some z from h)
    exact ⟨k, x, o, rfl, h1, h2.symm⟩
  | _ :: _ :: _ :: _, h => cases h
theorem snd_get {ov o1 f1 : Bool} {m : Mt} (hm : m = .get1 ∨ m = .get2) {e e2 : Expr} {es : List Expr} {pa pos : Pos} {g g2 : Env → Bx → R P} (hu : X.A.units + 1 < cLine) (he : Snd X bo H0 cs W o1 f1 e g) (h2 : PA X (e2 :: es) (liftA bo H0 cs W .n g2)) (hst : notStar e2 = true) (hp : allPlain es = true) (hl : (pa.endLine == pos.line) = true)
    (hbase : attributeBase e "get" X.env (eval e X.env) = eval e X.env) (hfew : ((backTo pos (starEach (e2 :: es) X.env)).all (fun x => !x.1) && (backToKw pos (keywordEach [] X.env)).all (fun x => x.1.isSome) && decide ((e2 :: es).length + ([] : List Keyword).length + (if ([] : List Keyword).isEmpty then 0 else 1) < 30)) = true) :
    Snd X bo H0 cs W ov false (.Call (.Attribute e "get" pa) (e2 :: es) [] pos) fun e b => (g e b).bind fun d b1 => if mOk m d then (g2 e b1).bind fun ds b2 => R.ofO (mthD m d (argsOf ds)) b2 else .no :=
  Snd.of_n (PE.imp (pe_getA hu he.r h2 hbase hfew hl (starEach_of hst) (noStars hp)) fun σ H Q ⟨e, b, F, p, h⟩ => ⟨e, b, F, p, fin_bind hRMm p h fun d b1 v F1 H1 p1 x1 r1 h1 => by
    cases d with
    | dict ds =>
      obtain ⟨a, u, rfl, n, hh, rd⟩ := (show RpR bo F1 H1 v (.dict ds) from r1)
      have hok : mOk m (.dict ds) = true := by
        rcases hm with rfl | rfl <;> rfl
      rw [if_pos hok] at h1
      refine ⟨a, rfl, dcO_isD hh rd, e, b1, F1, p1, fin_bindA hRMm p1 h1 fun d2 b2 vs F2 H2 p2 x2 r2 h2 => ?_⟩
      generalize hds : argsOf d2 = as at r2 h2
      have hh2 := x2.keep _ _ n hh
      have rd2 := DcO.mono x2.sf rd
      cases hq : mthD m (.dict ds) as with
      | none =>
        rw [hq] at h2
        exact h2.elim
      | some z =>
        rw [hq] at h2
        rcases hm with rfl | rfl
        · obtain ⟨k, o, rfl, hk, rfl⟩ := get1_inv hq
          cases r2 with
          | cons ry t =>
            cases t
            obtain ⟨ov', g', ro⟩ := dc_get (bo := bo) p2.sub hh2 rd2 (Rp.r p2.sub p2.box ry) hk
            exact .inl ⟨_, ov', rfl, g', h2 _ F2 H2 (Ext.refl p2.sub) p2.box (ro.getD .non)⟩
        · obtain ⟨k, x, o, rfl, hk, rfl⟩ := get2_inv hq
          cases r2 with
          | cons ry t =>
            cases t with
            | cons rz t =>
              cases t
              obtain ⟨ov', g', ro⟩ := dc_get (bo := bo) p2.sub hh2 rd2 (Rp.r p2.sub p2.box ry) hk
              exact .inr ⟨_, _, ov', rfl, g', h2 _ F2 H2 (Ext.refl p2.sub) p2.box (ro.getD rz)⟩
    | _ =>
      rcases hm with rfl | rfl <;> exact h1.elim⟩) rfl
end
end Dv
/-! text DU -/
set_option Elab.async false
set_option linter.all false
set_option maxRecDepth 100000
set_option maxHeartbeats 4000000
namespace Dv
open PySem PySem.Spec L2

/-! ### walks over a dict's keys, values, items -/
def dwalkD (f : P × P → P) (fr : Bool) : P → Option (List P)
  | .dict ds => if (fr || dLk ds) && !dTq ds then some ((dcut ds).map f) else none
  | _ => none
theorem dvalsD_eq {fr : Bool} {d : P} : dvalsD fr d = dwalkD (·.2) fr d := by cases d <;> rfl
theorem ditemsD_eq {fr : Bool} {d : P} : ditemsD fr d = dwalkD (fun e => .tuple [e.1, e.2]) fr d := by cases d <;> rfl
theorem dkeysD_eq {fr : Bool} {d : P} : dkeysD fr d = dwalkD (·.1) fr d := by cases d <;> rfl
structure JOk (J : It) (d : Addr) (o : Obj) (kvs : List (Key × V)) (f : P × P → P) : Prop where
  go : ∀ i H, H d = some (.frz o (.dK kvs)) → i < kvs.length → J.go i H
  stop : ∀ i H, H d = some (.frz o (.dK kvs)) → kvs.length ≤ i → J.stop i H
  yld : ∀ i H x H' k v F dv, kvs[i]? = some (k, v) → J.yld i H x H' → Same F H → Rp F v dv → ∃ F', Ext none F H F' H' ∧ Rp F' x (f (keyD k, dv))
theorem rp_key {F : Hp} {k : Key} : Rp F (kV k) (keyD k) := by
  cases k with
  | inl i => exact .int i
  | inr x => exact .str x
theorem jok_vals {d : Addr} {o : Obj} {kvs : List (Key × V)} : JOk (Itd d o kvs) d o kvs (·.2) :=
  ⟨fun i H h l => ⟨h, l⟩, fun i H h l => ⟨h, l⟩, fun i H x H' k v F dv hk y s r => by
    obtain ⟨rfl, k', e⟩ := y
    rw [hk] at e
    cases e
    exact ⟨F, Ext.refl s, r⟩⟩
theorem jok_keys {d : Addr} {o : Obj} {kvs : List (Key × V)} : JOk (Itk d o kvs) d o kvs (·.1) :=
  ⟨fun i H h l => ⟨h, l⟩, fun i H h l => ⟨h, l⟩, fun i H x H' k v F dv hk y s r => by
    obtain ⟨rfl, k', v', e, rfl⟩ := y
    rw [hk] at e
    cases e
    exact ⟨F, Ext.refl s, rp_key⟩⟩
theorem jok_items {d : Addr} {o : Obj} {kvs : List (Key × V)} : JOk (Iti d o kvs) d o kvs (fun e => .tuple [e.1, e.2]) :=
  ⟨fun i H h l => ⟨h, l⟩, fun i H h l => ⟨h, l⟩, fun i H x H' k v F dv hk y s r => by
    obtain ⟨T, k', v', e, rfl, hT, rfl⟩ := y
    rw [hk] at e
    cases e
    exact made_tup s hT (.cons rp_key (.cons r .nil))⟩
theorem rpK_at {F : Hp} : ∀ {kvs : List (Key × V)} {ds : List (P × P)} {i : Nat} {e : P × P}, RpK F kvs ds → ds[i]? = some e → ∃ k v, kvs[i]? = some (k, v) ∧ e.1 = keyD k ∧ Rp F v e.2
  | _, _, _, _, .nil, h => by simp at h
  | _, _, 0, _, .cons r _, h => by
    simp at h
    subst h
    exact ⟨_, _, rfl, rfl, r⟩
  | _, _, i + 1, _, .cons _ t, h => by
    obtain ⟨k, v, h1, h2, h3⟩ := rpK_at (i := i) t (by simpa using h)
    exact ⟨k, v, by simpa using h1, h2, h3⟩
section
variable {X : Cx} {bo : Option Addr} {H0 : Hp} {cs : Cls'} {W : WX} {F H : Hp}
theorem jok_turn {J : It} {d : Addr} {o : Obj} {kvs : List (Key × V)} {f : P × P → P} {ds : List (P × P)} {F1 F2 H2 : Hp} {i : Nat} (j : JOk J d o kvs f) (r : RpK F1 kvs ds) (s1 : Same F1 F2) (s2 : Same F2 H2) (hd : H2 d = some (.frz o (.dK kvs))) :
    (∀ y, (ds.map f)[i]? = some y → J.go i H2 ∧ ∀ x H3, J.yld i H2 x H3 → ∃ F3, Ext none F2 H2 F3 H3 ∧ Rp F3 x y) ∧ (i = (ds.map f).length → J.stop i H2) := by
  refine ⟨fun y hy => ?_, fun hi => j.stop i H2 hd (by rw [hi, List.length_map, rpK_length r]; exact Nat.le_refl _)⟩
  rw [List.getElem?_map] at hy
  obtain ⟨e, h1, rfl⟩ := Option.map_eq_some_iff.mp hy
  obtain ⟨k, v, g1, g2, g3⟩ := rpK_at r h1
  refine ⟨j.go i H2 hd (List.getElem?_eq_some_iff.mp g1).1, fun x H3 hx => ?_⟩
  obtain ⟨F3, m1, m2⟩ := j.yld i H2 x H3 k v F2 e.2 g1 hx s2 (g3.mono s1)
  refine ⟨F3, m1, ?_⟩
  rw [← g2] at m2
  exact m2
/-- the value's dict is locked at the end -/
theorem pe_lk {e : Expr} {t : TE} (h : PE X e t) : PE X e (fun σ H Q => t σ H fun x H1 => (∃ d u, x = .ref d ∧ H1 d = some u ∧ Mut (some u) ∧ ∀ od, Q x (upd H1 d (.frz od u))) ∨ Q x H1) := by
  refine ⟨fun pn s σ H Q I hw => thn (h.run pn s σ H _ I hw) fun v s1 ⟨x, H1, I1, r, q⟩ => ?_⟩
  rcases q with ⟨d, u, rfl, hd, mu, q⟩ | q
  · obtain ⟨od, I2⟩ := I1.lock hd mu
    exact ⟨_, _, I2, r, q od⟩
  · exact ⟨x, H1, I1, r, q⟩
def iDct (J : Addr → Obj → List (Key × V) → It) (td : TE) : TI := fun σ H R => td σ H fun x H1 => ∃ d o kvs, x = .ref d ∧ H1 d = some (.frz o (.dK kvs)) ∧ R (J d o kvs) H1
/-- a fresh dict is frozen and locked -/
theorem ext_lock {F1 H1 : Hp} {b : Bx} {a : Addr} {u u' : HO} (x : Ext bo F H F1 H1) (q : BoxRep bo F1 H1 b) (n : some a ≠ bo) (hB : H a = none) (hF : F1 a = none) (hh : H1 a = some u) : Ext bo F H (upd F1 a u') (upd H1 a u') ∧ BoxRep bo (upd F1 a u') (upd H1 a u') b ∧ Same F1 (upd F1 a u') := by
  have s : Same F1 (upd F1 a u') := fun c o hc => by
    rw [upd_ne (ne_of_none hc hF)]
    exact hc
  refine ⟨⟨x.sf.trans s, fun c o hc => ?_, fun c o n2 hc => ?_, fun c o h1 h2 => ?_⟩, fun β e => ?_, s⟩
  · by_cases z : c = a
    · rw [z, upd_same] at hc ⊢
      exact hc
    · rw [upd_ne z] at hc ⊢
      exact x.sub _ _ hc
  · rw [upd_ne (ne_of_none hc hB)]
    exact x.keep c o n2 hc
  · by_cases z : c = a
    · rw [z]
      exact hB
    · rw [upd_ne z] at h2
      exact x.new _ _ h1 h2
  · have z : β ≠ a := fun z => n (by rw [← z]; exact e.symm)
    rw [upd_ne z, upd_ne z]
    exact q β e
theorem spi_dct {J : Addr → Obj → List (Key × V) → It} {f : P × P → P} {tg e ex : Expr} {g : Env → Bx → R P} {st ov f1 fr : Bool} (hJ : ∀ d o kvs, JOk (J d o kvs) d o kvs f) (hpi : ∀ td, PE X e td → PI X tg ex (iDct J td)) (h : Snd X bo H0 cs W ov f1 e g) (hf : fr = true → f1 = true) (hst : st = true → fr = false → ov = false) :
    PI X tg ex (liftI bo H0 cs W st fun en b => (g en b).bind fun d b1 => R.ofO ((dwalkD f fr d).map .list) b1) := by
  cases fr with
  | true =>
    refine PI.imp (hpi _ (pe_lk (h.f (hf rfl)))) fun σ H Rr ⟨en, b, F, p, hq⟩ => ⟨en, b, F, p, ?_⟩
    dsimp only at hq
    cases q : g en b with
    | no =>
      rw [q] at hq
      exact hq.elim
    | ex c d b' =>
      rw [q] at hq
      exact hq
    | ok d b' =>
      rw [q] at hq
      rw [bindR_ok] at hq
      intro v F1 H1 x z r
      cases d with
      | dict ds =>
        obtain ⟨a, u, rfl, n, hB, hF, hh, rd⟩ := (show FrR bo H F1 H1 v (.dict ds) from r)
        replace hq : match R.ofO ((if (true || dLk ds) && !dTq ds then some ((dcut ds).map f) else none).map PyData.list) b' with
          | .ok d b' => (match itemsD d with
            | some xs => ∀ J F' H', Ext bo F H F' H' → BoxRep bo F' H' b' → (st = true → WalkS J F' xs) → WalkW J bo F' H' xs → Rr J H'
            | none => False)
          | .ex c d b' => ∀ dd F' H', Ext bo F H F' H' → BoxRep bo F' H' b' → ExcRep cs F' H' dd c d → W (.ref (cs.ad c)) dd σ H'
          | .no => False := hq
        cases rd with
        | k rd =>
          rename_i kvs
          obtain ⟨t1, t2, t3⟩ := tq_K rd
          rw [t1, t3] at hq
          refine .inl ⟨a, _, rfl, hh, True.intro, fun od => ?_⟩
          obtain ⟨m1, m2, m3⟩ := ext_lock (u' := .frz od (.dK kvs)) x z n hB hF hh
          refine ⟨a, od, kvs, rfl, upd_same, hq _ _ _ m1 m2 (fun _ => fun i F2 H2 s1 s2 => jok_turn (hJ a od kvs) (rd.mono m3) s1 s2 (s2 _ _ (s1 _ _ upd_same))) fun i F2 H2 x2 => jok_turn (hJ a od kvs) (rd.mono m3) x2.sf x2.sub (x2.keep _ _ n upd_same)⟩
        | kl rd =>
          rename_i od kvs ds
          obtain ⟨t1, t2, t3⟩ := tq_K rd
          have e1 : dTq (lMark :: ds) = dTq ds := rfl
          have e2 : dcut (lMark :: ds) = dcut ds := rfl
          rw [e1, e2, t1, t3] at hq
          obtain ⟨m1, m2, m3⟩ := ext_lock (u' := .frz od (.dK kvs)) x z n hB hF hh
          rw [upd_eta hh] at m1 m2
          refine .inr ⟨a, od, kvs, rfl, hh, hq _ _ _ m1 m2 (fun _ => fun i F2 H2 s1 s2 => jok_turn (hJ a od kvs) (rd.mono m3) s1 s2 (s2 _ _ (s1 _ _ upd_same))) fun i F2 H2 x2 => jok_turn (hJ a od kvs) (rd.mono m3) x2.sf x2.sub (x2.keep _ _ n hh)⟩
        | t rd => exact hq.elim
        | tl rd => exact hq.elim
      | _ => exact hq.elim
  | false =>
    have core : ∀ {m : Mo}, (st = true → m = .n) → PE X e (lift bo H0 cs W (lM bo m) g) → PI X tg ex (liftI bo H0 cs W st fun en b => (g en b).bind fun d b1 => R.ofO ((dwalkD f false d).map .list) b1) := fun {m} hm hpe => by
      refine PI.imp (hpi _ hpe) fun σ H Rr ⟨en, b, F, p, hq⟩ => ⟨en, b, F, p, ?_⟩
      dsimp only at hq
      cases q : g en b with
      | no =>
        rw [q] at hq
        exact hq.elim
      | ex c d b' =>
        rw [q] at hq
        exact hq
      | ok d b' =>
        rw [q] at hq
        rw [bindR_ok] at hq
        intro v F1 H1 x z r
        cases d with
        | dict ds =>
          have r0 : RpR bo F1 H1 v (.dict ds) := RpM.r x.sub z r
          have hS : ∀ a u, v = .ref a → H1 a = some u → st = true → F1 a = some u := fun a u e1 e2 hs => by
            have := hm hs
            subst this
            cases (show Rp F1 v (.dict ds) from r) with
            | dct e3 r3 =>
              cases e1
              have e4 := x.sub _ _ e3
              rw [e2] at e4
              cases e4
              exact e3
          obtain ⟨a, u, rfl, n, hh, rd⟩ := r0
          replace hq : match R.ofO ((if (false || dLk ds) && !dTq ds then some ((dcut ds).map f) else none).map PyData.list) b' with
            | .ok d b' => (match itemsD d with
              | some xs => ∀ J F' H', Ext bo F H F' H' → BoxRep bo F' H' b' → (st = true → WalkS J F' xs) → WalkW J bo F' H' xs → Rr J H'
              | none => False)
            | .ex c d b' => ∀ dd F' H', Ext bo F H F' H' → BoxRep bo F' H' b' → ExcRep cs F' H' dd c d → W (.ref (cs.ad c)) dd σ H'
            | .no => False := hq
          cases rd with
          | k rd =>
            rw [(tq_K rd).2.1] at hq
            exact hq.elim
          | kl rd =>
            rename_i od kvs ds
            obtain ⟨t1, t2, t3⟩ := tq_K rd
            have e1 : dTq (lMark :: ds) = dTq ds := rfl
            have e2 : dcut (lMark :: ds) = dcut ds := rfl
            rw [e1, e2, t1, t3] at hq
            exact ⟨a, od, kvs, rfl, hh, hq _ _ _ x z (fun hs => fun i F2 H2 s1 s2 => jok_turn (hJ a od kvs) rd s1 s2 (s2 _ _ (s1 _ _ (hS a _ rfl hh hs)))) fun i F2 H2 x2 => jok_turn (hJ a od kvs) rd x2.sf x2.sub (x2.keep _ _ n hh)⟩
          | t rd => exact hq.elim
          | tl rd => exact hq.elim
        | _ => exact hq.elim
    cases st with
    | true => exact core (m := .n) (fun _ => rfl) (h.n (hst rfl rfl))
    | false => exact core (m := .r) (fun z => nomatch z) h.r
theorem spi_vals {tg e : Expr} {apos cpos : Pos} {g : Env → Bx → R P} {st ov f1 fr : Bool} (h : Snd X bo H0 cs W ov f1 e g) (hf : fr = true → f1 = true) (hst : st = true → fr = false → ov = false) (hb : attributeBase e "values" X.env (eval e X.env) = eval e X.env) (hl : (apos.endLine == cpos.line) = true) :
    PI X tg (.Call (.Attribute e "values" apos) [] [] cpos) (liftI bo H0 cs W st fun en b => (g en b).bind fun d b1 => R.ofO ((dvalsD fr d).map .list) b1) := by
  have := spi_dct (J := Itd) (tg := tg) (st := st) (fun _ _ _ => jok_vals) (fun td he => pi_values (apos := apos) (cpos := cpos) he hb hl) h hf hst
  simp only [dvalsD_eq]
  exact this
theorem spi_keysM {tg e : Expr} {apos cpos : Pos} {g : Env → Bx → R P} {st ov f1 fr : Bool} (h : Snd X bo H0 cs W ov f1 e g) (hf : fr = true → f1 = true) (hst : st = true → fr = false → ov = false) (hb : attributeBase e "keys" X.env (eval e X.env) = eval e X.env) (hl : (apos.endLine == cpos.line) = true) :
    PI X tg (.Call (.Attribute e "keys" apos) [] [] cpos) (liftI bo H0 cs W st fun en b => (g en b).bind fun d b1 => R.ofO ((dkeysD fr d).map .list) b1) := by
  have := spi_dct (J := Itk) (tg := tg) (st := st) (fun _ _ _ => jok_keys) (fun td he => pi_keysM (apos := apos) (cpos := cpos) he hb hl) h hf hst
  simp only [dkeysD_eq]
  exact this
theorem spi_items {e : Expr} {elts : List Expr} {kk : Nat} {tpos apos cpos : Pos} {g : Env → Bx → R P} {st ov f1 fr : Bool} (h : Snd X bo H0 cs W ov f1 e g) (hf : fr = true → f1 = true) (hst : st = true → fr = false → ov = false) (hb : attributeBase e "items" X.env (eval e X.env) = eval e X.env) (hl : (apos.endLine == cpos.line) = true) :
    PI X (.Tuple elts kk tpos) (.Call (.Attribute e "items" apos) [] [] cpos) (liftI bo H0 cs W st fun en b => (g en b).bind fun d b1 => R.ofO ((ditemsD fr d).map .list) b1) := by
  have := spi_dct (J := Iti) (tg := .Tuple elts kk tpos) (st := st) (fun _ _ _ => jok_items) (fun td he => pi_items (apos := apos) (cpos := cpos) he hb hl) h hf hst
  simp only [ditemsD_eq]
  exact this
end
end Dv
/-! text DV -/
set_option Elab.async false
set_option linter.all false
set_option maxRecDepth 100000
set_option maxHeartbeats 4000000
namespace Dv
open PySem PySem.Spec
def oB {α : Type} (o : Option α) (n : Bool) (f : α → Bool) : Bool := match o with
  | none => n
  | some a => f a
theorem oB_some {α : Type} {o : Option α} {f : α → Bool} (h : oB o false f = true) : ∃ a, o = some a ∧ f a = true := by
  cases o with
  | none => cases h
  | some a => exact ⟨a, rfl, h⟩
/-! views: small, so that their cases are cheap -/
def v1 {α : Type} : List α → Option α
  | [a] => some a
  | _ => none
def v2 {α : Type} : List α → Option (α × α)
  | [a, b] => some (a, b)
  | _ => none
def v3 {α : Type} : List α → Option (α × α × α)
  | [a, b, c] => some (a, b, c)
  | _ => none
def vAssign : Stmt → Option (List Expr × Expr × Pos)
  | .Assign ts v p => some (ts, v, p)
  | _ => none
def vName : Expr → Option (Str × Pos)
  | .Name x p => some (x, p)
  | _ => none
def vTup : Expr → Option (List Expr)
  | .Tuple es _ _ => some es
  | _ => none
def vExpr : Stmt → Option Expr
  | .Expr e _ => some e
  | _ => none
def vCall : Expr → Option (Expr × List Expr × List Keyword × Pos)
  | .Call f es ks p => some (f, es, ks, p)
  | _ => none
def vAttr : Expr → Option (Expr × Str × Pos)
  | .Attribute e n p => some (e, n, p)
  | _ => none
def vSub : Expr → Option (Expr × Expr)
  | .Subscript a i _ => some (a, i)
  | _ => none
def vAug : Stmt → Option (Expr × Operator × Expr)
  | .AugAssign t o v _ => some (t, o, v)
  | _ => none
def vFor : Stmt → Option (Expr × Expr × List Stmt × List Stmt)
  | .For t i b e _ => some (t, i, b, e)
  | _ => none
def vWhile : Stmt → Option (Expr × List Stmt × List Stmt)
  | .While t b e _ => some (t, b, e)
  | _ => none
def vIf : Stmt → Option (Expr × List Stmt × List Stmt)
  | .If t a b _ => some (t, a, b)
  | _ => none
def vRet : Stmt → Option (Option Expr)
  | .Return v _ => some v
  | _ => none
def vRaise : Stmt → Option Expr
  | .Raise (some e) none _ => some e
  | _ => none
/-- try: .. except x as n: .. -/
def vTry : Stmt → Option (List Stmt × (Str × Pos) × Str × List Stmt × Pos)
  | .Try b [.ExceptHandler (some (.Name x np)) (some n) su p] [] [] _ => some (b, (x, np), n, su, p)
  | _ => none
def vStr : Expr → Option Str
  | .Constant (.str s) _ _ => some s
  | _ => none
def vLC : Expr → Option (Expr × List Comprehension × Scope × Pos)
  | .ListComp x gs sc p => some (x, gs, sc, p)
  | _ => none
def vDC : Expr → Option (Expr × Expr × List Comprehension × Scope × Pos)
  | .DictComp k x gs sc p => some (k, x, gs, sc, p)
  | _ => none
def vLst : Expr → Option (List Expr)
  | .List es _ => some es
  | _ => none
/-- a clause that is not async -/
def vGen (g : Comprehension) : Option (Expr × Expr × List Expr) := match g with
  | ⟨t, i, fs, 0⟩ => some (t, i, fs)
  | _ => none
/-! views, back -/
theorem vRaise_of {s : Stmt} {e : Expr} (h : vRaise s = some e) : ∃ p, s = .Raise (some e) none p := by
  unfold vRaise at h
  split at h
  · cases h; exact ⟨_, rfl⟩
  · cases h
theorem vTry_of {s : Stmt} {q} (h : vTry s = some q) : ∃ p, s = .Try q.1 [.ExceptHandler (some (.Name q.2.1.1 q.2.1.2)) (some q.2.2.1) q.2.2.2.1 q.2.2.2.2] [] [] p := by
  unfold vTry at h
  split at h
  · cases h; exact ⟨_, rfl⟩
  · cases h
theorem vStr_of {e : Expr} {s : Str} (h : vStr e = some s) : ∃ k p, e = .Constant (.str s) k p := by
  unfold vStr at h
  split at h
  · cases h; exact ⟨_, _, rfl⟩
  · cases h
theorem vLC_of {e : Expr} {q} (h : vLC e = some q) : e = .ListComp q.1 q.2.1 q.2.2.1 q.2.2.2 := by
  cases e with
  | ListComp x gs sc p => cases h; rfl
  | _ => cases h
theorem vDC_of {e : Expr} {q} (h : vDC e = some q) : e = .DictComp q.1 q.2.1 q.2.2.1 q.2.2.2.1 q.2.2.2.2 := by
  cases e with
  | DictComp k x gs sc p => cases h; rfl
  | _ => cases h
theorem vLst_of {e : Expr} {q} (h : vLst e = some q) : ∃ p, e = .List q p := by
  cases e with
  | List es p => cases h; exact ⟨p, rfl⟩
  | _ => cases h
theorem vGen_of {g : Comprehension} {q} (h : vGen g = some q) : g = ⟨q.1, q.2.1, q.2.2, 0⟩ := by
  unfold vGen at h
  split at h
  · cases h; rfl
  · cases h
theorem v1_of {α : Type} {l : List α} {a : α} (h : v1 l = some a) : l = [a] := by
  match l, h with
  | [b], h => cases h; rfl
theorem v2_of {α : Type} {l : List α} {a : α × α} (h : v2 l = some a) : l = [a.1, a.2] := by
  match l, h with
  | [b, c], h => cases h; rfl
theorem v3_of {α : Type} {l : List α} {a : α × α × α} (h : v3 l = some a) : l = [a.1, a.2.1, a.2.2] := by
  match l, h with
  | [b, c, d], h => cases h; rfl
theorem vAssign_of {s : Stmt} {q} (h : vAssign s = some q) : s = .Assign q.1 q.2.1 q.2.2 := by
  cases s with
  | Assign ts v p => cases h; rfl
  | _ => cases h
theorem vName_of {e : Expr} {q} (h : vName e = some q) : e = .Name q.1 q.2 := by
  cases e with
  | Name x p => cases h; rfl
  | _ => cases h
theorem vTup_of {e : Expr} {q} (h : vTup e = some q) : ∃ k p, e = .Tuple q k p := by
  cases e with
  | Tuple es k p => cases h; exact ⟨k, p, rfl⟩
  | _ => cases h
theorem vExpr_of {s : Stmt} {q} (h : vExpr s = some q) : ∃ p, s = .Expr q p := by
  cases s with
  | Expr e p => cases h; exact ⟨p, rfl⟩
  | _ => cases h
theorem vCall_of {e : Expr} {q} (h : vCall e = some q) : e = .Call q.1 q.2.1 q.2.2.1 q.2.2.2 := by
  cases e with
  | Call f es ks p => cases h; rfl
  | _ => cases h
theorem vAttr_of {e : Expr} {q} (h : vAttr e = some q) : e = .Attribute q.1 q.2.1 q.2.2 := by
  cases e with
  | Attribute a n p => cases h; rfl
  | _ => cases h
theorem vSub_of {e : Expr} {q} (h : vSub e = some q) : ∃ p, e = .Subscript q.1 q.2 p := by
  cases e with
  | Subscript a n p => cases h; exact ⟨p, rfl⟩
  | _ => cases h
theorem vAug_of {s : Stmt} {q} (h : vAug s = some q) : ∃ p, s = .AugAssign q.1 q.2.1 q.2.2 p := by
  cases s with
  | AugAssign t o v p => cases h; exact ⟨p, rfl⟩
  | _ => cases h
theorem vFor_of {s : Stmt} {q} (h : vFor s = some q) : ∃ p, s = .For q.1 q.2.1 q.2.2.1 q.2.2.2 p := by
  cases s with
  | For t i b e p => cases h; exact ⟨p, rfl⟩
  | _ => cases h
theorem vWhile_of {s : Stmt} {q} (h : vWhile s = some q) : ∃ p, s = .While q.1 q.2.1 q.2.2 p := by
  cases s with
  | While t b e p => cases h; exact ⟨p, rfl⟩
  | _ => cases h
theorem vIf_of {s : Stmt} {q} (h : vIf s = some q) : ∃ p, s = .If q.1 q.2.1 q.2.2 p := by
  cases s with
  | If t b e p => cases h; exact ⟨p, rfl⟩
  | _ => cases h
theorem vRet_of {s : Stmt} {q} (h : vRet s = some q) : ∃ p, s = .Return q p := by
  cases s with
  | Return v p => cases h; exact ⟨p, rfl⟩
  | _ => cases h
/-- f(e, ..) -/
def vFn (e : Expr) : Option (Str × List Expr) := match vCall e with
  | some q => (match vName q.1 with
    | some x => (match q.2.2.1 with
      | [] => some (x.1, q.2.1)
      | _ => none)
    | none => none)
  | none => none
theorem vFn_of {e : Expr} {q} (h : vFn e = some q) : ∃ p pos, e = .Call (.Name q.1 p) q.2 [] pos := by
  unfold vFn at h
  cases h1 : vCall e with
  | none => rw [h1] at h; cases h
  | some u =>
    rw [h1] at h
    dsimp only at h
    cases h2 : vName u.1 with
    | none => rw [h2] at h; cases h
    | some x =>
      rw [h2] at h
      dsimp only at h
      cases h3 : u.2.2.1 with
      | nil =>
        rw [h3] at h
        cases h
        rw [vCall_of h1, vName_of h2, h3]
        exact ⟨_, _, rfl⟩
      | cons k ks => rw [h3] at h; cases h
/-- {} -/
def vNew : Expr → Option Pos
  | .Dict ks vs p => (match ks with
    | [] => (match vs with
      | [] => some p
      | _ => none)
    | _ => none)
  | _ => none
theorem vNew_of {e : Expr} {q} (h : vNew e = some q) : e = .Dict [] [] q := by
  cases e with
  | Dict ks vs p =>
    cases ks with
    | nil =>
      cases vs with
      | nil => cases h; rfl
      | cons v vs => cases h
    | cons k ks => cases h
  | _ => cases h
/-- o.n(e, ..) -/
def vMt (e : Expr) : Option (Expr × Str × Pos × List Expr × Pos) := match vCall e with
  | some q => (match vAttr q.1 with
    | some x => (match q.2.2.1 with
      | [] => some (x.1, x.2.1, x.2.2, q.2.1, q.2.2.2)
      | _ => none)
    | none => none)
  | none => none
theorem vMt_of {e : Expr} {q} (h : vMt e = some q) : e = .Call (.Attribute q.1 q.2.1 q.2.2.1) q.2.2.2.1 [] q.2.2.2.2 := by
  unfold vMt at h
  cases h1 : vCall e with
  | none => rw [h1] at h; cases h
  | some u =>
    rw [h1] at h
    dsimp only at h
    cases h2 : vAttr u.1 with
    | none => rw [h2] at h; cases h
    | some x =>
      rw [h2] at h
      dsimp only at h
      cases h3 : u.2.2.1 with
      | nil =>
        rw [h3] at h
        cases h
        rw [vCall_of h1, vAttr_of h2, h3]
      | cons k ks => rw [h3] at h; cases h
end Dv
/-! text DD -/
set_option Elab.async false
set_option linter.all false
set_option maxRecDepth 100000
set_option maxHeartbeats 4000000
namespace Dv
open PySem PySem.Spec L2

/-! ### what a def's text leans on -/
structure Ct where
  sc : Scope
  N : List Str
  /-- none: a def; some l: a block with these names -/
  blk : Option (List (Str × NameKind))
  bx : Bool
  blt : List Str
  con : List (Str × P)
  fns : List (Str × Bool × Bool × Nat)
  kws : List (Nat × Nat × List Str × List Nat)
  /-- own errors: name, number, field, base -/
  exs : List (Str × Nat × Str × String)
def Ct.frs (c : Ct) (f : Nat) : Bool := match c.fns[f]? with
  | some q => q.2.2.1
  | none => false
def nmOk (c : Ct) (i : Nat) (x : Str) : Bool :=
  decide (c.N[i]? = some x) && (decide (c.sc.names.lookup x = some .local) || decide (c.sc.names.lookup x = some .cell) || decide (c.sc.names.lookup x = some .free)) && !(x == ("__debug__" : Str)) && !(x == ("__classdict__" : Str))
def glOk (c : Ct) (x : Str) : Bool := decide (c.sc.names.lookup x = some .globalImplicit) && !(x == ("__debug__" : Str))
def blOk (c : Ct) (x : Str) : Bool := glOk c x && c.blt.contains x
def locOk (c : Ct) (x : Str) : Bool := decide (c.sc.names.lookup x = some .local)
def fnOk (c : Ct) (x : Str) : Bool := match c.blk with
  | none => true
  | some l => l.lookup x == some .cell
/-- the i-th slot may be stored to by the name x -/
def tgOk (c : Ct) (i : Nat) (x : Str) : Bool :=
  decide (c.N[i]? = some x) && (locOk c x || (decide (c.sc.names.lookup x = some .cell) && fnOk c x)) && (!c.bx || i != 0)
def ovE : IE → Bool
  | .ovar _ => true
  | _ => false
def iterOnly : IE → Bool
  | .rng _ => true
  | .enm _ => true
  | .zip _ _ => true
  | .dvals _ _ => true
  | .ditems _ _ => true
  | .dkeys _ _ => true
  | _ => false
def needTup : IE → Bool
  | .enm _ => true
  | .zip _ _ => true
  | .ditems _ _ => true
  | _ => false
def ovI : IE → Bool
  | .enm a => ovE a
  | .zip a b => ovE a || ovE b
  | .rng _ => false
  | .dvals fr a => !fr && ovE a
  | .ditems fr a => !fr && ovE a
  | .dkeys fr a => !fr && ovE a
  | ie => ovE ie
def isGet : Mt → Bool
  | .get1 => true
  | .get2 => true
  | _ => false
def frE (c : Ct) : IE → Bool
  | .cst _ => true
  | .glob _ => true
  | .bin _ _ _ => true
  | .neg _ => true
  | .not _ => true
  | .cmp _ _ _ => true
  | .chain _ _ _ _ _ => true
  | .chain3 _ _ _ _ _ _ _ => true
  | .bget _ => true
  | .tup _ => true
  | .lst _ => true
  | .slc _ _ _ => true
  | .rev _ => true
  | .lc _ _ _ _ _ => true
  | .lc2 _ _ _ _ _ _ _ _ _ => true
  | .dcomp _ _ _ _ _ _ => true
  | .bi _ _ => true
  | .isi _ _ => true
  | .mth m _ _ => !isGet m
  | .dnew _ => true
  | .trg _ => true
  | .lrg _ => true
  | .call f _ => c.frs f
  | .callK f _ _ _ => c.frs f
  | .callB f _ => c.frs f
  | .ite _ a b => frE c a && frE c b
  | _ => false
def opE : Op → Operator → Bool
  | .add, .Add => true
  | .sub, .Sub => true
  | .mul, .Mult => true
  | .fdiv, .FloorDiv => true
  | .mod, .Mod => true
  | .pow, .Pow => true
  | _, _ => false
def cpE : Cp → CmpOp → Bool
  | .eq, .Eq => true
  | .ne, .NotEq => true
  | .lt, .Lt => true
  | .le, .LtE => true
  | .gt, .Gt => true
  | .ge, .GtE => true
  | .is_, .Is => true
  | .isn, .IsNot => true
  | .in_, .In => true
  | .nin, .NotIn => true
  | _, _ => false
def cstE : P → Const → Bool
  | .none, .none => true
  | .bool a, .bool b => a == b
  | .int a, .int b => decide (a = b)
  | .str a, .str b => decide (a = b)
  | _, _ => false
def flatEq : P → P → Bool
  | .none, .none => true
  | .bool a, .bool b => a == b
  | .int a, .int b => decide (a = b)
  | .str a, .str b => decide (a = b)
  | _, _ => false
def biName : Bi → Option Str
  | .len => some "len"
  | .abs => some "abs"
  | .int_ => some "int"
  | .bool_ => some "bool"
  | .tuple_ => some "tuple"
  | .list_ => some "list"
  | .sum => some "sum"
  | .max => some "max"
  | .min => some "min"
  | .all => some "all"
  | .any => some "any"
  | .sorted => some "sorted"
  | _ => none
/-- of a set that is made for it alone -/
def setName : Bi → Option Str
  | .sortset => some "sorted"
  | .lenset => some "len"
  | _ => none
def mtName : Mt → Option Str
  | .strip => some "strip"
  | .get1 => some "get"
  | .get2 => some "get"
  | _ => none
def mtAr : Mt → Nat
  | .get2 => 2
  | _ => 1
def tyN : Ty → Option Str
  | .int_ => some "int"
  | .str_ => some "str"
  | .bool_ => some "bool"
  | .tuple_ => some "tuple"
  | .list_ => some "list"
  | _ => none
def isNil : IE → Bool
  | .nil => true
  | _ => false
def isTup : Expr → Bool
  | .Tuple _ _ _ => true
  | _ => false
def isYes : IE → Bool
  | .cst (.bool true) => true
  | _ => false
def isEmptyE : List Expr → Bool
  | [] => true
  | _ => false
/-- the block of a comprehension -/
def relC (scope sc : Scope) : Scope := { scope with names := scope.names.map fun (n, k) => if (k == .free && sc.kind == .function && sc.names.lookup n == some .cell) then (n, .cell) else (n, k) }
def Ct.inBlk (c : Ct) (scope : Scope) : Ct := { c with sc := relC scope c.sc, blk := some scope.names }
def ownOf (c : Ct) (own : List Nat) : List (Str × Nat) := own.filterMap fun i => (c.N[i]?).map fun x => (x, i)
def blkOk (c : Ct) (scope : Scope) (own : List Nat) : Bool :=
  decide (scope.kind = .function) && scope.names.all (fun y => decide (scope.names.lookup y.1 = some y.2)) && decide ((ownOf c own).length = own.length) &&
  scope.names.all (fun y => !decide (y.2 = .free) || decide (c.sc.names.lookup y.1 = some .cell) || decide (c.sc.names.lookup y.1 = some .free)) &&
  scope.names.all (fun y => !(decide (y.2 = .local) || decide (y.2 = .cell)) || ((ownOf c own).map (·.1)).contains y.1 || !c.N.contains y.1) && (!c.bx || !own.contains 0)
/-- a form whose method is asked of its value -/
def plainBase : Expr → Bool
  | .Name _ _ => true
  | .Subscript _ _ _ => true
  | .Call _ as _ _ => (match as with
    | [] => false
    | _ => true)
  | _ => false
/-- the tests of a clause: none, or one -/
def ifsB (fs : List Expr) (n : Bool) (f : Expr → Bool) : Bool := match fs with
  | [] => n
  | [e] => f e
  | _ => false
mutual
def okT : Tg → Ct → Expr → Bool
  | .nm i, c, e => match e with
    | .Name x _ => tgOk c i x
    | _ => false
  | .tp t, c, e => match e with
    | .Tuple es _ _ => okTs t c es && allPlain es
    | _ => false
  | _, _, _ => false
termination_by structural t => t
def okTs : Tg → Ct → List Expr → Bool
  | .nil, _, es => isEmptyE es
  | .cons a b, c, es => match es with
    | e :: es => notStar e && okT a c e && okTs b c es
    | _ => false
  | _, _, _ => false
termination_by structural t => t
end
def okBiS (n : Str) (c : Ct) (e : Expr) (f : List Expr → Bool) : Bool := oB (vFn e) false fun q => oB (v1 q.2) false fun w => oB (vFn w) false fun r => oB (v1 r.2) false fun a => decide (q.1 = n) && blOk c q.1 && decide (r.1 = "set") && blOk c r.1 && notStar a && f r.2
def okBiN (p : Bi) (c : Ct) (e : Expr) (f : List Expr → Bool) : Bool := oB (vFn e) false fun q => decide (biName p = some q.1) && blOk c q.1 && !isEmptyE q.2 && allPlain q.2 && f q.2
def okBi (p : Bi) (c : Ct) (e : Expr) (f : List Expr → Bool) : Bool := match setName p with
  | some n => okBiS n c e f
  | none => okBiN p c e f
mutual
def okE : IE → Ct → Expr → Bool
  | .var i, c, e => match e with
    | .Name x _ => nmOk c i x
    | _ => false
  | .ovar i, c, e => match e with
    | .Name x _ => nmOk c i x
    | _ => false
  | .cst d, c, e => match e with
    | .Constant k _ _ => cstE d k
    | _ => false
  | .glob d, c, e => match e with
    | .Name x _ => glOk c x && c.con.any fun q => decide (q.1 = x) && flatEq q.2 d
    | _ => false
  | .bin op a b, c, e => match e with
    | .BinOp l o r _ => opE op o && okE a c l && !iterOnly a && okE b c r && !iterOnly b
    | _ => false
  | .neg a, c, e => match e with
    | .UnaryOp .USub l _ => okE a c l && !iterOnly a
    | _ => false
  | .not a, c, e => match e with
    | .UnaryOp .Not l _ => okE a c l && !iterOnly a
    | _ => false
  | .cmp op a b, c, e => match e with
    | .Compare l [o] [r] _ => cpE op o && okE a c l && !iterOnly a && okE b c r && !iterOnly b && notSet r
    | _ => false
  | .chain o1 o2 a b d, c, e => match e with
    | .Compare l [p1, p2] [r, t] _ => cpE o1 p1 && cpE o2 p2 && okE a c l && !iterOnly a && okE b c r && !iterOnly b && okE d c t && !iterOnly d && notSet t
    | _ => false
  | .chain3 o1 o2 o3 a b d g, c, e => match e with
    | .Compare l [p1, p2, p3] [r, t, u] _ => cpE o1 p1 && cpE o2 p2 && cpE o3 p3 && okE a c l && !iterOnly a && okE b c r && !iterOnly b && okE d c t && !iterOnly d && okE g c u && !iterOnly g && notSet u
    | _ => false
  | .bget j, c, e => match e with
    | .Subscript (.Name y _) (.Constant (.int i) _ _) _ => c.bx && nmOk c 0 y && decide (i = (j : Int))
    | _ => false
  | .and a b, c, e => match e with
    | .BoolOp .And (x :: y :: []) _ => okE a c x && !iterOnly a && !ovE a && okE b c y && !iterOnly b && !ovE b
    | .BoolOp .And (x :: y :: z :: r) p => okE a c x && !iterOnly a && !ovE a && okE b c (.BoolOp .And (y :: z :: r) p) && !iterOnly b
    | _ => false
  | .or a b, c, e => match e with
    | .BoolOp .Or (x :: y :: []) _ => okE a c x && !iterOnly a && !ovE a && okE b c y && !iterOnly b && !ovE b
    | .BoolOp .Or (x :: y :: z :: r) p => okE a c x && !iterOnly a && !ovE a && okE b c (.BoolOp .Or (y :: z :: r) p) && !iterOnly b
    | _ => false
  | .ite t a b, c, e => match e with
    | .IfExp x y z _ => okE t c x && !iterOnly t && okE a c y && !iterOnly a && !ovE a && okE b c z && !iterOnly b && !ovE b
    | _ => false
  | .tup as, c, e => match e with
    | .Tuple es _ _ => okA as c true es
    | _ => false
  | .lst as, c, e => match e with
    | .List es _ => okA as c true es
    | _ => false
  | .idx a i, c, e => match e with
    | .Subscript x y _ => okE a c x && !iterOnly a && okE i c y && !iterOnly i && notSlice y
    | _ => false
  | .slc a lo hi, c, e => match e with
    | .Subscript x (.Slice l h none _) _ => okE a c x && !iterOnly a && oB l (isNil lo) (fun l => !isNil lo && okE lo c l && !iterOnly lo) && oB h (isNil hi) (fun l => !isNil hi && okE hi c l && !iterOnly hi)
    | _ => false
  | .rev a, c, e => match e with
    | .Subscript x (.Slice none none (some (.UnaryOp .USub (.Constant (.int 1) _ _) _)) _) _ => okE a c x && !iterOnly a
    | _ => false
  | .lc own elt tg it ifs, c, e => match e with
    | .ListComp x [⟨t, i, fs, 0⟩] scope _ => blkOk c scope own && okE it c i && notSet i && (!needTup it || isTup t) && okT tg (c.inBlk scope) t && (tgIx tg).all own.contains &&
      ifsB fs (isYes ifs) (fun f => okE ifs (c.inBlk scope) f && !iterOnly ifs) && okE elt (c.inBlk scope) x && !iterOnly elt && !ovE elt
    | _ => false
  | .lc2 own own2 elt tg it ifs tg2 it2 ifs2, c, e => oB (vLC e) false fun q => oB (v2 q.2.1) false fun g => oB (vGen g.1) false fun g1 => oB (vGen g.2) false fun g2 =>
      (blkOk c q.2.2.1 own && okE it c g1.2.1 && notSet g1.2.1 && (!needTup it || isTup g1.1) && okT tg (c.inBlk q.2.2.1) g1.1 && (tgIx tg).all own.contains && ifsB g1.2.2 (isYes ifs) (fun f => okE ifs (c.inBlk q.2.2.1) f && !iterOnly ifs)) &&
      (okE it2 (c.inBlk q.2.2.1) g2.2.1 && notSet g2.2.1 && (!needTup it2 || isTup g2.1) && !ovI it2 && okT tg2 (c.inBlk q.2.2.1) g2.1 && (tgIx tg2).all own2.contains && own2.all own.contains && ifsB g2.2.2 (isYes ifs2) (fun f => okE ifs2 (c.inBlk q.2.2.1) f && !iterOnly ifs2)) &&
      (okE elt (c.inBlk q.2.2.1) q.1 && !iterOnly elt && !ovE elt)
  | .dcomp own kx vx tg it ifs, c, e => oB (vDC e) false fun q => oB (v1 q.2.2.1) false fun g => oB (vGen g) false fun g1 =>
      (blkOk c q.2.2.2.1 own && okE it c g1.2.1 && notSet g1.2.1 && (!needTup it || isTup g1.1) && okT tg (c.inBlk q.2.2.2.1) g1.1 && (tgIx tg).all own.contains && ifsB g1.2.2 (isYes ifs) (fun f => okE ifs (c.inBlk q.2.2.2.1) f && !iterOnly ifs)) &&
      (okE kx (c.inBlk q.2.2.2.1) q.1 && !iterOnly kx && !ovE kx && okE vx (c.inBlk q.2.2.2.1) q.2.1 && !iterOnly vx && !ovE vx)
  | .call f as, c, e => match e with
    | .Call (.Name x _) es [] _ => oB c.fns[f]? false (fun q => decide (q.1 = x) && !q.2.1 && decide (es.length = q.2.2.2)) && glOk c x && allPlain es && okA as c true es
    | _ => false
  | .callK f pm as ks, c, e => match e with
    | .Call (.Name x _) es kws _ => oB c.fns[f]? false (fun q => decide (q.1 = x) && decide (pm.length = q.2.2.2) && c.kws.any fun k => decide (k.1 = f) && decide (k.2.1 = es.length) && decide (kws.map Keyword.arg = k.2.2.1.map some) && decide (k.2.2.2 = pm) && pm.all (· < es.length + k.2.2.1.length)) && glOk c x && allPlain es && okA as c true es && okK ks c kws
    | _ => false
  | .callB f as, c, e => match e with
    | .Call (.Name x _) (.Name y _ :: es) [] _ => oB c.fns[f]? false (fun q => decide (q.1 = x) && q.2.1 && decide (es.length + 1 = q.2.2.2)) && glOk c x && c.bx && nmOk c 0 y && allPlain es && okA as c true es
    | _ => false
  | .callX f a as, c, e => match e with
    | .Call (.Name x _) (y :: es) [] _ => oB c.fns[f]? false (fun q => decide (q.1 = x) && q.2.1 && !q.2.2.1 && decide (es.length + 1 = q.2.2.2)) && glOk c x && okE a c y && !iterOnly a && frE c a && notStar y && allPlain es && okA as c true es
    | _ => false
  | .bi p as, c, e => okBi p c e (fun es => okA as c false es)
  | .isi t a, c, e => match e with
    | .Call (.Name x _) [y, .Name z _] [] _ => decide (x = "isinstance") && blOk c x && decide (tyN t = some z) && blOk c z && okE a c y && !iterOnly a && notStar y
    | .Call (.Name x _) [y, .Tuple [.Name z _, .Name u _] _ _] [] _ => decide (x = "isinstance") && blOk c x && (match t with
      | .seq_ => (decide (z = "list") && decide (u = "tuple")) || (decide (z = "tuple") && decide (u = "list"))
      | .numstr => decide (z = "bool") && decide (u = "str")
      | _ => false) && blOk c z && blOk c u && okE a c y && !iterOnly a && notStar y
    | _ => false
  | .mth m a as, c, e => oB (vMt e) false fun q => decide (mtName m = some q.2.1) && okE a c q.1 && !iterOnly a && okA as c true q.2.2.2.1 && allPlain q.2.2.2.1 && decide (q.2.2.2.1.length = mtAr m) && (q.2.2.1.endLine == q.2.2.2.2.line) && plainBase q.1
  | .dnew t, c, e => oB (vNew e) false fun _ => true
  | .dvals fr a, c, e => oB (vMt e) false fun q => decide (q.2.1 = "values") && isEmptyE q.2.2.2.1 && okE a c q.1 && !iterOnly a && (!fr || frE c a) && (q.2.2.1.endLine == q.2.2.2.2.line) && plainBase q.1
  | .dkeys fr a, c, e => oB (vMt e) false fun q => decide (q.2.1 = "keys") && isEmptyE q.2.2.2.1 && okE a c q.1 && !iterOnly a && (!fr || frE c a) && (q.2.2.1.endLine == q.2.2.2.2.line) && plainBase q.1
  | .ditems fr a, c, e => oB (vMt e) false fun q => decide (q.2.1 = "items") && isEmptyE q.2.2.2.1 && okE a c q.1 && !iterOnly a && (!fr || frE c a) && (q.2.2.1.endLine == q.2.2.2.2.line) && plainBase q.1
  | .trg as, c, e => oB (vFn e) false fun q => oB (v1 q.2) false fun w => oB (vFn w) false fun r => decide (q.1 = "tuple") && blOk c q.1 && decide (r.1 = "range") && blOk c r.1 && allPlain r.2 && !isEmptyE r.2 && okA as c false r.2 && decide (r.2.length ≤ 2)
  | .lrg as, c, e => oB (vFn e) false fun q => oB (v1 q.2) false fun w => oB (vFn w) false fun r => decide (q.1 = "list") && blOk c q.1 && decide (r.1 = "range") && blOk c r.1 && allPlain r.2 && !isEmptyE r.2 && okA as c false r.2 && decide (r.2.length ≤ 2)
  | .rng as, c, e => match e with
    | .Call (.Name x _) es [] _ => decide (x = "range") && blOk c x && allPlain es && !isEmptyE es && okA as c false es && decide (es.length ≤ 3)
    | _ => false
  | .enm a, c, e => match e with
    | .Call (.Name x _) [y] [] _ => decide (x = "enumerate") && blOk c x && notStar y && okE a c y && !iterOnly a
    | _ => false
  | .zip a b, c, e => match e with
    | .Call (.Name x _) [y, z] [] _ => decide (x = "zip") && blOk c x && notStar y && notStar z && okE a c y && !iterOnly a && okE b c z && !iterOnly b
    | _ => false
  | _, _, _ => false
termination_by structural ie => ie
/-- an argument list; m: each a value that may be kept -/
def okA : IE → Ct → Bool → List Expr → Bool
  | .nil, c, m, es => isEmptyE es
  | .cons a as, c, m, es => match es with
    | e :: es => notStar e && okE a c e && !iterOnly a && (!m || !ovE a) && okA as c m es
    | _ => false
  | .star a as, c, m, es => match es with
    | .Starred e _ :: es => m && okE a c e && !iterOnly a && okA as c m es
    | _ => false
  | _, _, _, _ => false
termination_by structural ie => ie
def okK : IE → Ct → List Keyword → Bool
  | .nil, c, ks => match ks with
    | [] => true
    | _ => false
  | .cons a as, c, ks => match ks with
    | ⟨_, e, _⟩ :: ks => okE a c e && !iterOnly a && !ovE a && okK as c ks
    | _ => false
  | _, _, _ => false
termination_by structural ie => ie
end
end Dv
/-! text DE -/
set_option Elab.async false
set_option linter.all false
set_option maxRecDepth 100000
set_option maxHeartbeats 4000000
namespace Dv
open PySem PySem.Spec L2

structure Cok (c : Ct) (X : Cx) (bo : Option Addr) (cs : Cls') (W : WX) (φ : Phi) : Prop where
  calm : X.calm = true
  N : X.N = c.N
  nd : X.N.Nodup
  sc : X.env.scope = c.sc
  fn : ∀ x, X.fn x = fnOk c x
  bx : c.bx = true ↔ bo ≠ none
  hu : X.A.units + 70 < cLine
  blt : ∀ x ∈ c.blt, X.mg x = none
  con : ∀ q ∈ c.con, ∃ v u, X.mg q.1 = some u ∧ RelV v u ∧ Flt v q.2
  fns : ∀ f q, c.fns[f]? = some q → FnAt X cs q.1 q.2.1 q.2.2.1 q.2.2.2 (φ f)
  kws : ∀ k ∈ c.kws, ∀ q, c.fns[k.1]? = some q → FnK X cs q.1 q.2.2.1 q.2.2.2 k.2.1 k.2.2.1 k.2.2.2 (φ k.1)
  exs : ∀ q ∈ c.exs, ExcAt X cs q.1 q.2.1 q.2.2.1 q.2.2.2
  tk : Takes X W
section
variable {c : Ct} {X : Cx} {bo : Option Addr} {H0 : Hp} {cs : Cls'} {W : WX} {φ : Phi}
theorem Cok.hu1 {c : Ct} {X : Cx} {bo : Option Addr} {cs : Cls'} {W : WX} {φ : Phi} (k : Cok c X bo cs W φ) : X.A.units + 1 < cLine := by
  have := k.hu
  omega
theorem Cok.inBlk (k : Cok c X bo cs W φ) (s : Shared) (H : Hp) (scope : Scope) (C : Addr) (cl : List (Str × Addr)) (fp : List Addr) : Cok (c.inBlk scope) (X.blk s H scope (compEnvC scope cl C X.env) fp) bo cs W0 φ where
  calm := k.calm
  N := k.N
  nd := k.nd
  sc := by
    show relabel scope X.env = relC scope c.sc
    unfold relabel relC
    rw [← k.sc]
    rfl
  fn := fun x => rfl
  bx := k.bx
  hu := k.hu
  blt := k.blt
  con := k.con
  fns := k.fns
  kws := k.kws
  exs := k.exs
  tk := takes0
theorem nm_of (k : Cok c X bo cs W φ) {i : Nat} {x : Str} (h : nmOk c i x = true) : NmOk X i x := by
  unfold nmOk at h
  simp only [Bool.and_eq_true, Bool.or_eq_true, decide_eq_true_eq, Bool.not_eq_true'] at h
  obtain ⟨⟨⟨h1, h2⟩, h3⟩, h4⟩ := h
  refine ⟨by rw [k.N]; exact h1, ?_, h3, h4⟩
  show X.env.scope.names.lookup x = some .local ∨ X.env.scope.names.lookup x = some .cell ∨ X.env.scope.names.lookup x = some .free
  rw [k.sc]
  rcases h2 with (h2 | h2) | h2
  · exact .inl h2
  · exact .inr (.inl h2)
  · exact .inr (.inr h2)
theorem gl_of (k : Cok c X bo cs W φ) {x : Str} (h : glOk c x = true) : Gl X x ∧ (x == ("__debug__" : Str)) = false := by
  unfold glOk at h
  simp only [Bool.and_eq_true, decide_eq_true_eq, Bool.not_eq_true'] at h
  refine ⟨?_, h.2⟩
  show X.env.scope.names.lookup x = some .globalImplicit
  rw [k.sc]
  exact h.1
theorem bl_of (k : Cok c X bo cs W φ) {x : Str} (h : blOk c x = true) : Gl X x ∧ X.mg x = none := by
  unfold blOk at h
  rw [Bool.and_eq_true] at h
  exact ⟨(gl_of k h.1).1, k.blt x (by simpa using h.2)⟩
theorem cst_of {d : P} {k : Const} {j : Nat} {pos : Pos} (h : cstE d k = true) : ∃ v, Flt v d ∧ PE X (.Constant k j pos) (tC v) := by
  unfold cstE at h
  split at h
  · exact ⟨_, .non, pe_non⟩
  · rw [eq_of_beq h]
    exact ⟨_, .bl _, pe_bl⟩
  · rw [of_decide_eq_true h]
    exact ⟨_, .int _, pe_int⟩
  · rw [of_decide_eq_true h]
    exact ⟨_, .str _, pe_str⟩
  · cases h
theorem flat_of {a b : P} (h : flatEq a b = true) : a = b := by
  unfold flatEq at h
  split at h
  · rfl
  · rw [eq_of_beq h]
  · rw [of_decide_eq_true h]
  · rw [of_decide_eq_true h]
  · cases h
theorem op_of {op : Op} {o : Operator} (h : opE op o = true) : OpR X (binaryOp o) (rD bo (lF bo) (binD op)) := by
  cases op <;> cases o <;> first
    | cases h; done
    | exact op_addD
    | exact op_subD
    | exact op_mulD
    | exact op_fdivD
    | exact op_modD
    | exact op_powD
theorem cp_of (hu : X.A.units + 70 < cLine) {op : Cp} {o : CmpOp} (h : cpE op o = true) : OpR X (compareOp o) (rB bo (cmpD op)) := by
  have h1 : X.A.units + 64 < cLine := by omega
  have h2 : X.A.units + 65 < cLine := by omega
  cases op <;> cases o <;> first
    | cases h; done
    | exact op_eqDD h1
    | exact op_neDD h1
    | exact op_ltDD h1
    | exact op_leDD h1
    | exact op_gtDD h1
    | exact op_geDD h1
    | exact op_isDD
    | exact op_isnDD
    | exact op_inDD h2
    | exact op_ninDD h2
theorem tg_of (k : Cok c X bo cs W φ) {i : Nat} {x : Str} {pos : Pos} (h : tgOk c i x = true) : PG X (.Name x pos) (liftG bo H0 (.nm i)) := by
  unfold tgOk at h
  simp only [Bool.and_eq_true, Bool.or_eq_true, decide_eq_true_eq, Bool.not_eq_true', locOk] at h
  obtain ⟨⟨h1, h2⟩, h3⟩ := h
  refine spg_name k.nd (by rw [k.N]; exact h1) ?_ ?_ ?_
  · rcases h2 with h2 | h2
    · exact .inl (by rw [k.sc]; exact h2)
    · exact .inr (by rw [k.sc]; exact h2.1)
  · rcases h2 with h2 | h2
    · exact .inr (by rw [k.sc]; exact h2)
    · exact .inl (by rw [k.fn]; exact h2.2)
  · intro hb
    rcases h3 with h3 | h3
    · exact absurd (k.bx.mpr hb) (by rw [h3]; decide)
    · simpa using h3
theorem okTs_len : ∀ {t : Tg} {c : Ct} {es : List Expr} {ds : List P} {e e' : Env}, okTs t c es = true → asgn t (.list ds) e = some e' → ds.length = es.length
  | .nil, c, es, ds, e, e', h, q => by
    cases es with
    | nil =>
      cases ds with
      | nil => rfl
      | cons d ds => cases q
    | cons x es => cases h
  | .cons a b, c, es, ds, e, e', h, q => by
    cases es with
    | nil => cases h
    | cons x es =>
      have h : (notStar x && okT a c x && okTs b c es) = true := h
      rw [Bool.and_eq_true] at h
      cases ds with
      | nil => cases q
      | cons d ds =>
        have q : (match asgn a d e with | some e1 => asgn b (.list ds) e1 | none => none) = some e' := q
        split at q
        · exact congrArg (· + 1) (okTs_len (t := b) h.2 q)
        · cases q
  | .nm _, _, _, _, _, _, h, _ => by cases h
  | .tp _, _, _, _, _, _, h, _ => by cases h
mutual
theorem okT_sound : ∀ {t : Tg} {c : Ct} {X : Cx} {e : Expr} {W : WX}, Cok c X bo cs W φ → okT t c e = true → PG X e (liftG bo H0 t)
  | .nm i, c, X, e, W, k, h => by
    cases e with
    | Name x p => exact tg_of k h
    | _ => cases h
  | .tp t, c, X, e, W, k, h => by
    cases e with
    | Tuple es j p =>
      have h : (okTs t c es && allPlain es) = true := h
      rw [Bool.and_eq_true] at h
      exact spg_tup k.calm (okTs_sound k h.1) (fun ds e e' q => okTs_len h.1 q) h.2
    | _ => cases h
  | .nil, c, X, e, W, k, h => by cases h
  | .cons _ _, c, X, e, W, k, h => by cases h
theorem okTs_sound : ∀ {t : Tg} {c : Ct} {X : Cx} {es : List Expr} {W : WX}, Cok c X bo cs W φ → okTs t c es = true → PGs X es (liftGs bo H0 t)
  | .nil, c, X, es, W, k, h => by
    cases es with
    | nil => exact spgs_nil
    | cons x es => cases h
  | .cons a b, c, X, es, W, k, h => by
    cases es with
    | nil => cases h
    | cons x es =>
      have h : (notStar x && okT a c x && okTs b c es) = true := h
      simp only [Bool.and_eq_true] at h
      exact spgs_cons (okT_sound k h.1.2) (okTs_sound k h.2) h.1.1
  | .nm _, c, X, e, W, k, h => by cases h
  | .tp _, c, X, e, W, k, h => by cases h
end
theorem ownOf_map (k : Cok c X bo cs W φ) {own : List Nat} (h : (ownOf c own).length = own.length) : (ownOf c own).map (·.2) = own ∧ ∀ p ∈ ownOf c own, X.N[p.2]? = some p.1 := by
  constructor
  · clear k
    induction own with
    | nil => rfl
    | cons i own ih =>
      unfold ownOf at h ⊢
      rw [List.filterMap_cons] at h ⊢
      cases q : c.N[i]? with
      | none =>
        rw [q] at h
        have h : (ownOf c own).length = own.length + 1 := h
        have := List.length_filterMap_le (fun i => (c.N[i]?).map fun x => (x, i)) own
        unfold ownOf at h
        omega
      | some x =>
        rw [q] at h
        have h : (ownOf c own).length + 1 = own.length + 1 := h
        show i :: (ownOf c own).map (·.2) = i :: own
        rw [ih (by omega)]
  · intro p hp
    unfold ownOf at hp
    obtain ⟨i, hi, e⟩ := List.mem_filterMap.mp hp
    cases q : c.N[i]? with
    | none => rw [q] at e; cases e
    | some x =>
      rw [q] at e
      cases e
      rw [k.N]
      exact q
theorem blk_of (k : Cok c X bo cs W φ) {scope : Scope} {own : List Nat} (h : blkOk c scope own = true) : BlkOk X.N X.env.scope scope (ownOf c own) ∧ (ownOf c own).map (·.2) = own ∧ (bo ≠ none → 0 ∉ own) := by
  unfold blkOk at h
  simp only [Bool.and_eq_true, decide_eq_true_eq, List.all_eq_true] at h
  obtain ⟨⟨⟨⟨⟨h1, h2⟩, h3⟩, h4⟩, h5⟩, h6⟩ := h
  obtain ⟨m1, m2⟩ := ownOf_map k h3
  refine ⟨⟨h1, h2, m2, fun y hy he => ?_, fun y hy he => ?_⟩, m1, fun hb hm => ?_⟩
  · have q := h4 y hy
    simp only [Bool.or_eq_true, Bool.not_eq_true', decide_eq_false_iff_not, decide_eq_true_eq] at q
    rw [k.sc]
    rcases q with (q | q) | q
    · exact absurd he q
    · exact .inl q
    · exact .inr q
  · have q := h5 y hy
    simp only [Bool.or_eq_true, Bool.not_eq_true', Bool.or_eq_false_iff, decide_eq_false_iff_not] at q
    rw [k.N]
    rcases q with (q | q) | q
    · rcases he with he | he
      · exact absurd he q.1
      · exact absurd he q.2
    · exact .inl (by simpa using q)
    · exact .inr (by simpa using q)
  · simp only [Bool.or_eq_true, Bool.not_eq_true'] at h6
    rcases h6 with h6 | h6
    · exact absurd (k.bx.mpr hb) (by rw [h6]; decide)
    · exact absurd hm (by simpa using h6)
end
end Dv
/-! text DF -/
set_option Elab.async false
set_option linter.all false
set_option maxRecDepth 100000
set_option maxHeartbeats 4000000
namespace Dv
open PySem PySem.Spec L2
section
variable {bo : Option Addr} {cs : Cls'} {φ : Phi}
def mo (m : Bool) : Mo := if m then .n else .r
def SA (bo : Option Addr) (cs : Cls') (φ : Phi) (ie : IE) : Prop := ∀ {c : Ct} {X : Cx} {H0 : Hp} {W : WX} {e : Expr}, Cok c X bo cs W φ → okE ie c e = true → iterOnly ie = false →
  Snd X bo H0 cs W (ovE ie) (frE c ie) e (ev φ ie) ∧ ∀ op es pos, e = .BoolOp op es pos → SndB X bo H0 cs W op es pos (ev φ ie)
def SB (bo : Option Addr) (cs : Cls') (φ : Phi) (ie : IE) : Prop := ∀ {c : Ct} {X : Cx} {H0 : Hp} {W : WX} {m : Bool} {es : List Expr}, Cok c X bo cs W φ → okA ie c m es = true →
  PA X es (liftA bo H0 cs W (mo m) (ev φ ie)) ∧ (allPlain es = true → ∀ en b d b', ev φ ie en b = .ok d b' → (argsOf d).length = es.length)
def SK (bo : Option Addr) (cs : Cls') (φ : Phi) (ie : IE) : Prop := ∀ {c : Ct} {X : Cx} {H0 : Hp} {W : WX} {kws : List Keyword}, Cok c X bo cs W φ → okK ie c kws = true →
  PK X kws (liftA bo H0 cs W .n (ev φ ie)) ∧ ∀ en b d b', ev φ ie en b = .ok d b' → (argsOf d).length = kws.length
def SC (bo : Option Addr) (cs : Cls') (φ : Phi) (ie : IE) : Prop := ∀ {c : Ct} {X : Cx} {H0 : Hp} {W : WX} {e tg : Expr} {st : Bool}, Cok c X bo cs W φ → okE ie c e = true → iterOnly ie = true → (needTup ie = true → isTup tg = true) → (st = true → ovI ie = false) →
  PI X tg e (liftI bo H0 cs W st (ev φ ie))
structure SO (bo : Option Addr) (cs : Cls') (φ : Phi) (ie : IE) : Prop where
  a : SA bo cs φ ie
  b : SB bo cs φ ie
  k : SK bo cs φ ie
  c : SC bo cs φ ie
/-- a walk over what an expression gives -/
theorem SO.pi {ie : IE} (s : SO bo cs φ ie) {c : Ct} {X : Cx} {H0 : Hp} {W : WX} {e tg : Expr} {st : Bool} (k : Cok c X bo cs W φ) (h : okE ie c e = true) (ht : needTup ie = true → isTup tg = true) (hv : st = true → ovI ie = false) : PI X tg e (liftI bo H0 cs W st (ev φ ie)) := by
  cases q : iterOnly ie with
  | true => exact s.c k h q ht hv
  | false =>
    refine spi_val (s.a k h q).1 fun w => ?_
    have := hv w
    cases ie <;> first
      | exact this
      | cases q
theorem nb {e : Expr} {p : Prop} (h : ∀ op es pos, e ≠ .BoolOp op es pos) : ∀ op es pos, e = .BoolOp op es pos → p := fun op es pos z => absurd z (h op es pos)
/-- only values -/
theorem SO.val {ie : IE} (a : SA bo cs φ ie) (ho : iterOnly ie = false) (hb : ∀ c m es, okA ie c m es = false) (hk : ∀ c ks, okK ie c ks = false) : SO bo cs φ ie :=
  ⟨a, fun {_ _ _ _ _ _} _ h => by rw [hb] at h; (cases h), fun {_ _ _ _ _} _ h => by rw [hk] at h; (cases h), fun {_ _ _ _ _ _ _} _ _ z => by rw [ho] at z; (cases z)⟩
theorem so_var {i : Nat} : SO bo cs φ (.var i) := SO.val (fun {c X H0 W e} k h _ => by
  cases e with
  | Name x p =>
    have n := nm_of k (show nmOk c i x = true from h)
    exact ⟨snd_var n.hN n.hv n.hd n.hcd, fun _ _ _ z => nomatch z⟩
  | _ => cases h) rfl (fun _ _ _ => rfl) (fun _ _ => rfl)
theorem so_ovar {i : Nat} : SO bo cs φ (.ovar i) := SO.val (fun {c X H0 W e} k h _ => by
  cases e with
  | Name x p =>
    have n := nm_of k (show nmOk c i x = true from h)
    exact ⟨snd_ovar n.hN n.hv n.hd n.hcd, fun _ _ _ z => nomatch z⟩
  | _ => cases h) rfl (fun _ _ _ => rfl) (fun _ _ => rfl)
theorem so_cst {d : P} : SO bo cs φ (.cst d) := SO.val (fun {c X H0 W e} k h _ => by
  cases e with
  | Constant x j p =>
    obtain ⟨v, f, pe⟩ := cst_of (X := X) (j := j) (pos := p) (show cstE d x = true from h)
    exact ⟨snd_flat f pe rfl, fun _ _ _ z => nomatch z⟩
  | _ => cases h) rfl (fun _ _ _ => rfl) (fun _ _ => rfl)
theorem so_glob {d : P} : SO bo cs φ (.glob d) := SO.val (fun {c X H0 W e} k h _ => by
  cases e with
  | Name x p =>
    have h : (glOk c x && c.con.any fun q => decide (q.1 = x) && flatEq q.2 d) = true := h
    rw [Bool.and_eq_true, List.any_eq_true] at h
    obtain ⟨h1, q, hq, h2⟩ := h
    rw [Bool.and_eq_true, decide_eq_true_eq] at h2
    obtain ⟨v, u, e1, e2, e3⟩ := k.con q hq
    obtain ⟨g1, g2⟩ := gl_of k h1
    rw [h2.1] at e1
    rw [flat_of h2.2] at e3
    exact ⟨snd_flat e3 (pe_glob g1 e1 e2 g2) rfl, fun _ _ _ z => nomatch z⟩
  | _ => cases h) rfl (fun _ _ _ => rfl) (fun _ _ => rfl)
theorem so_bin {op : Op} {a b : IE} (sa : SO bo cs φ a) (sb : SO bo cs φ b) : SO bo cs φ (.bin op a b) := SO.val (fun {c X H0 W e} k h _ => by
  cases e with
  | BinOp l o r p =>
    have h : (opE op o && okE a c l && !iterOnly a && okE b c r && !iterOnly b) = true := h
    simp only [Bool.and_eq_true, Bool.not_eq_true'] at h
    obtain ⟨⟨⟨⟨h1, h2⟩, h3⟩, h4⟩, h5⟩ := h
    exact ⟨snd_bin (op_of h1) (sa.a k h2 h3).1 (sb.a k h4 h5).1, fun _ _ _ z => nomatch z⟩
  | _ => cases h) rfl (fun _ _ _ => rfl) (fun _ _ => rfl)
theorem so_neg {a : IE} (sa : SO bo cs φ a) : SO bo cs φ (.neg a) := SO.val (fun {c X H0 W e} k h _ => by
  cases e with
  | UnaryOp o l p =>
    cases o with
    | USub =>
      have h : (okE a c l && !iterOnly a) = true := h
      simp only [Bool.and_eq_true, Bool.not_eq_true'] at h
      exact ⟨snd_neg (sa.a k h.1 h.2).1, fun _ _ _ z => nomatch z⟩
    | _ => cases h
  | _ => cases h) rfl (fun _ _ _ => rfl) (fun _ _ => rfl)
theorem so_not {a : IE} (sa : SO bo cs φ a) : SO bo cs φ (.not a) := SO.val (fun {c X H0 W e} k h _ => by
  cases e with
  | UnaryOp o l p =>
    cases o with
    | Not =>
      have h : (okE a c l && !iterOnly a) = true := h
      simp only [Bool.and_eq_true, Bool.not_eq_true'] at h
      exact ⟨snd_not (sa.a k h.1 h.2).1, fun _ _ _ z => nomatch z⟩
    | _ => cases h
  | _ => cases h) rfl (fun _ _ _ => rfl) (fun _ _ => rfl)
theorem so_cmp {op : Cp} {a b : IE} (sa : SO bo cs φ a) (sb : SO bo cs φ b) : SO bo cs φ (.cmp op a b) := SO.val (fun {c X H0 W e} k h _ => by
  match e, h with
  | .Compare l [o] [r] p, h =>
    have h : (cpE op o && okE a c l && !iterOnly a && okE b c r && !iterOnly b && notSet r) = true := h
    simp only [Bool.and_eq_true, Bool.not_eq_true'] at h
    obtain ⟨⟨⟨⟨⟨h1, h2⟩, h3⟩, h4⟩, h5⟩, h6⟩ := h
    exact ⟨snd_cmp (cp_of k.hu h1) (sa.a k h2 h3).1 (sb.a k h4 h5).1 h6, fun _ _ _ z => nomatch z⟩) rfl (fun _ _ _ => rfl) (fun _ _ => rfl)
theorem so_chain {o1 o2 : Cp} {a b d : IE} (sa : SO bo cs φ a) (sb : SO bo cs φ b) (sd : SO bo cs φ d) : SO bo cs φ (.chain o1 o2 a b d) := SO.val (fun {c X H0 W e} k h _ => by
  match e, h with
  | .Compare l [p1, p2] [r, t] p, h =>
    have h : (cpE o1 p1 && cpE o2 p2 && okE a c l && !iterOnly a && okE b c r && !iterOnly b && okE d c t && !iterOnly d && notSet t) = true := h
    simp only [Bool.and_eq_true, Bool.not_eq_true'] at h
    obtain ⟨⟨⟨⟨⟨⟨⟨⟨h1, h2⟩, h3⟩, h4⟩, h5⟩, h6⟩, h7⟩, h8⟩, h9⟩ := h
    exact ⟨snd_chain (cp_of k.hu h1) (cp_of k.hu h2) (sa.a k h3 h4).1 (sb.a k h5 h6).1 (sd.a k h7 h8).1 h9, fun _ _ _ z => nomatch z⟩) rfl (fun _ _ _ => rfl) (fun _ _ => rfl)
theorem so_chain3 {o1 o2 o3 : Cp} {a b d g : IE} (sa : SO bo cs φ a) (sb : SO bo cs φ b) (sd : SO bo cs φ d) (sg : SO bo cs φ g) : SO bo cs φ (.chain3 o1 o2 o3 a b d g) := SO.val (fun {c X H0 W e} k h _ => by
  match e, h with
  | .Compare l [p1, p2, p3] [r, t, u] p, h =>
    have h : (cpE o1 p1 && cpE o2 p2 && cpE o3 p3 && okE a c l && !iterOnly a && okE b c r && !iterOnly b && okE d c t && !iterOnly d && okE g c u && !iterOnly g && notSet u) = true := h
    simp only [Bool.and_eq_true, Bool.not_eq_true'] at h
    obtain ⟨⟨⟨⟨⟨⟨⟨⟨⟨⟨⟨h1, h2⟩, h3⟩, h4⟩, h5⟩, h6⟩, h7⟩, h8⟩, h9⟩, h10⟩, h11⟩, h12⟩ := h
    exact ⟨snd_chain3 (cp_of k.hu h1) (cp_of k.hu h2) (cp_of k.hu h3) (sa.a k h4 h5).1 (sb.a k h6 h7).1 (sd.a k h8 h9).1 (sg.a k h10 h11).1 h12, fun _ _ _ z => nomatch z⟩) rfl (fun _ _ _ => rfl) (fun _ _ => rfl)
theorem so_bget {j : Nat} : SO bo cs φ (.bget j) := SO.val (fun {c X H0 W e} k h _ => by
  match e, h with
  | .Subscript (.Name y py) (.Constant (.int i) k2 p2) p, h =>
    have h : (c.bx && nmOk c 0 y && decide (i = (j : Int))) = true := h
    simp only [Bool.and_eq_true, decide_eq_true_eq] at h
    obtain ⟨⟨h1, h2⟩, h3⟩ := h
    subst h3
    exact ⟨snd_bget (k.bx.mp h1) (nm_of k h2), fun _ _ _ z => nomatch z⟩) rfl (fun _ _ _ => rfl) (fun _ _ => rfl)
theorem Snd.ovf {X : Cx} {H0 : Hp} {W : WX} {ie : IE} {fr : Bool} {e : Expr} {g : Env → Bx → R P} (h : Snd X bo H0 cs W (ovE ie) fr e g) (q : ovE ie = false) : Snd X bo H0 cs W false fr e g := by
  rw [q] at h
  exact h
theorem so_and {a b : IE} (sa : SO bo cs φ a) (sb : SO bo cs φ b) : SO bo cs φ (.and a b) := SO.val (fun {c X H0 W e} k h _ => by
  match e, h with
  | .BoolOp .And (x :: y :: []) p, h =>
    have h : (okE a c x && !iterOnly a && !ovE a && okE b c y && !iterOnly b && !ovE b) = true := h
    simp only [Bool.and_eq_true, Bool.not_eq_true'] at h
    obtain ⟨⟨⟨⟨⟨h1, h2⟩, h3⟩, h4⟩, h5⟩, h6⟩ := h
    have key : SndB X bo H0 cs W .And [x, y] p (ev φ (.and a b)) := sndB_and ((sa.a k h1 h2).1.ovf h3) (sndB_and1 ((sb.a k h4 h5).1.ovf h6))
    exact ⟨key.snd, fun op es pos z => by cases z; exact key⟩
  | .BoolOp .And (x :: y :: z :: r) p, h =>
    have h : (okE a c x && !iterOnly a && !ovE a && okE b c (.BoolOp .And (y :: z :: r) p) && !iterOnly b) = true := h
    simp only [Bool.and_eq_true, Bool.not_eq_true'] at h
    obtain ⟨⟨⟨⟨h1, h2⟩, h3⟩, h4⟩, h5⟩ := h
    have key : SndB X bo H0 cs W .And (x :: y :: z :: r) p (ev φ (.and a b)) := sndB_and ((sa.a k h1 h2).1.ovf h3) ((sb.a k h4 h5).2 _ _ _ rfl)
    exact ⟨key.snd, fun op es pos z => by cases z; exact key⟩) rfl (fun _ _ _ => rfl) (fun _ _ => rfl)
theorem so_or {a b : IE} (sa : SO bo cs φ a) (sb : SO bo cs φ b) : SO bo cs φ (.or a b) := SO.val (fun {c X H0 W e} k h _ => by
  match e, h with
  | .BoolOp .Or (x :: y :: []) p, h =>
    have h : (okE a c x && !iterOnly a && !ovE a && okE b c y && !iterOnly b && !ovE b) = true := h
    simp only [Bool.and_eq_true, Bool.not_eq_true'] at h
    obtain ⟨⟨⟨⟨⟨h1, h2⟩, h3⟩, h4⟩, h5⟩, h6⟩ := h
    have key : SndB X bo H0 cs W .Or [x, y] p (ev φ (.or a b)) := sndB_or ((sa.a k h1 h2).1.ovf h3) (sndB_or1 ((sb.a k h4 h5).1.ovf h6))
    exact ⟨key.snd, fun op es pos z => by cases z; exact key⟩
  | .BoolOp .Or (x :: y :: z :: r) p, h =>
    have h : (okE a c x && !iterOnly a && !ovE a && okE b c (.BoolOp .Or (y :: z :: r) p) && !iterOnly b) = true := h
    simp only [Bool.and_eq_true, Bool.not_eq_true'] at h
    obtain ⟨⟨⟨⟨h1, h2⟩, h3⟩, h4⟩, h5⟩ := h
    have key : SndB X bo H0 cs W .Or (x :: y :: z :: r) p (ev φ (.or a b)) := sndB_or ((sa.a k h1 h2).1.ovf h3) ((sb.a k h4 h5).2 _ _ _ rfl)
    exact ⟨key.snd, fun op es pos z => by cases z; exact key⟩) rfl (fun _ _ _ => rfl) (fun _ _ => rfl)
theorem so_ite {t a b : IE} (st : SO bo cs φ t) (sa : SO bo cs φ a) (sb : SO bo cs φ b) : SO bo cs φ (.ite t a b) := SO.val (fun {c X H0 W e} k h _ => by
  cases e with
  | IfExp x y z p =>
    have h : (okE t c x && !iterOnly t && okE a c y && !iterOnly a && !ovE a && okE b c z && !iterOnly b && !ovE b) = true := h
    simp only [Bool.and_eq_true, Bool.not_eq_true'] at h
    obtain ⟨⟨⟨⟨⟨⟨⟨h1, h2⟩, h3⟩, h4⟩, h5⟩, h6⟩, h7⟩, h8⟩ := h
    exact ⟨snd_ite (st.a k h1 h2).1 ((sa.a k h3 h4).1.ovf h5) ((sb.a k h6 h7).1.ovf h8), fun _ _ _ z => nomatch z⟩
  | _ => cases h) rfl (fun _ _ _ => rfl) (fun _ _ => rfl)
theorem so_nil : SO bo cs φ .nil := by
  refine ⟨?_, ?_, ?_, ?_⟩
  · intro c X H0 W e k h _
    cases h
  · intro c X H0 W m es k h
    cases es with
    | nil => exact ⟨spa_nil, fun _ en b d b' q => by cases q; rfl⟩
    | cons x es => cases h
  · intro c X H0 W kws k h
    cases kws with
    | nil => exact ⟨spk_nil, fun en b d b' q => by cases q; rfl⟩
    | cons x es => cases h
  · intro c X H0 W e tg st k h z
    cases z
theorem cons_len {a as : IE} {n : Nat} {en : Env} {b b' : Bx} {d : P} (hl : ∀ en b d b', ev φ as en b = .ok d b' → (argsOf d).length = n) (q : ev φ (.cons a as) en b = .ok d b') : (argsOf d).length = n + 1 := by
  have q : ((ev φ a en b).bind fun d b1 => (ev φ as en b1).bind fun ds b2 => R.ok (.list (d :: argsOf ds)) b2) = .ok d b' := q
  cases q1 : ev φ a en b with
  | no => rw [q1] at q; cases q
  | ex c d b => rw [q1] at q; cases q
  | ok d1 b1 =>
    rw [q1, bindR_ok] at q
    have hl1 := hl en b1
    cases q2 : ev φ as en b1 with
    | no => rw [q2] at q; cases q
    | ex c d b => rw [q2] at q; cases q
    | ok d2 b2 =>
      rw [q2] at q
      cases q
      exact congrArg (· + 1) (hl1 d2 _ q2)
theorem so_cons {a as : IE} (sa : SO bo cs φ a) (ss : SO bo cs φ as) : SO bo cs φ (.cons a as) := by
  refine ⟨?_, ?_, ?_, ?_⟩
  · intro c X H0 W e k h _
    cases h
  · intro c X H0 W m es k h
    cases es with
    | nil => cases h
    | cons e es =>
      have h : (notStar e && okE a c e && !iterOnly a && (!m || !ovE a) && okA as c m es) = true := h
      simp only [Bool.and_eq_true, Bool.not_eq_true', Bool.or_eq_true] at h
      obtain ⟨⟨⟨⟨h1, h2⟩, h3⟩, h4⟩, h5⟩ := h
      obtain ⟨p1, p2⟩ := ss.b (H0 := H0) k h5
      refine ⟨spa_cons (sa.a k h2 h3).1 (fun z => ?_) p1 h1, fun hp en b d b' q => cons_len (p2 ?_) q⟩
      · rcases h4 with h4 | h4
        · rw [h4] at z
          cases z
        · exact h4
      · unfold allPlain at hp
        rw [List.all_cons, Bool.and_eq_true] at hp
        exact hp.2
  · intro c X H0 W kws k h
    cases kws with
    | nil => cases h
    | cons e es =>
      obtain ⟨nm, e, kp⟩ := e
      have h : (okE a c e && !iterOnly a && !ovE a && okK as c es) = true := h
      simp only [Bool.and_eq_true, Bool.not_eq_true'] at h
      obtain ⟨⟨⟨h1, h2⟩, h3⟩, h4⟩ := h
      obtain ⟨p1, p2⟩ := ss.k (H0 := H0) k h4
      exact ⟨spk_cons (sa.a k h1 h2).1 (fun _ => h3) p1, fun en b d b' q => cons_len p2 q⟩
  · intro c X H0 W e tg st k h z
    cases z
theorem so_star {a as : IE} (sa : SO bo cs φ a) (ss : SO bo cs φ as) : SO bo cs φ (.star a as) := by
  refine ⟨?_, ?_, ?_, ?_⟩
  · intro c X H0 W e k h _
    cases h
  · intro c X H0 W m es k h
    match es, h with
    | .Starred e p :: es, h =>
      have h : (m && okE a c e && !iterOnly a && okA as c m es) = true := h
      simp only [Bool.and_eq_true, Bool.not_eq_true'] at h
      obtain ⟨⟨⟨h1, h2⟩, h3⟩, h4⟩ := h
      subst h1
      obtain ⟨p1, p2⟩ := ss.b (H0 := H0) k h4
      exact ⟨spa_star (sa.a k h2 h3).1 p1, fun hp => by cases hp⟩
  · intro c X H0 W kws k h
    cases h
  · intro c X H0 W e tg st k h z
    cases z
theorem so_tup {as : IE} (ss : SO bo cs φ as) : SO bo cs φ (.tup as) := SO.val (fun {c X H0 W e} k h _ => by
  cases e with
  | Tuple es j p => exact ⟨snd_tup (ss.b k (show okA as c true es = true from h)).1, fun _ _ _ z => nomatch z⟩
  | _ => cases h) rfl (fun _ _ _ => rfl) (fun _ _ => rfl)
theorem so_lst {as : IE} (ss : SO bo cs φ as) : SO bo cs φ (.lst as) := SO.val (fun {c X H0 W e} k h _ => by
  cases e with
  | List es p => exact ⟨snd_lst (ss.b k (show okA as c true es = true from h)).1, fun _ _ _ z => nomatch z⟩
  | _ => cases h) rfl (fun _ _ _ => rfl) (fun _ _ => rfl)
theorem so_idx {a i : IE} (sa : SO bo cs φ a) (si : SO bo cs φ i) : SO bo cs φ (.idx a i) := SO.val (fun {c X H0 W e} k h _ => by
  cases e with
  | Subscript x y p =>
    have h : (okE a c x && !iterOnly a && okE i c y && !iterOnly i && notSlice y) = true := h
    simp only [Bool.and_eq_true, Bool.not_eq_true'] at h
    obtain ⟨⟨⟨⟨h1, h2⟩, h3⟩, h4⟩, h5⟩ := h
    exact ⟨snd_idx k.hu1 (sa.a k h1 h2).1 (si.a k h3 h4).1 h5, fun _ _ _ z => nomatch z⟩
  | _ => cases h) rfl (fun _ _ _ => rfl) (fun _ _ => rfl)
theorem isNil_eq {ie : IE} (h : isNil ie = true) : ie = .nil := by
  cases ie <;> first
    | rfl
    | cases h
theorem so_slc {a lo hi : IE} (sa : SO bo cs φ a) (sl : SO bo cs φ lo) (sh : SO bo cs φ hi) : SO bo cs φ (.slc a lo hi) := SO.val (fun {c X H0 W e} k h _ => by
  match e, h with
  | .Subscript x (.Slice l hh none p2) pos, h =>
    have h : (okE a c x && !iterOnly a && oB l (isNil lo) (fun l => !isNil lo && okE lo c l && !iterOnly lo) && oB hh (isNil hi) (fun l => !isNil hi && okE hi c l && !iterOnly hi)) = true := h
    rw [Bool.and_eq_true, Bool.and_eq_true, Bool.and_eq_true, Bool.not_eq_true'] at h
    obtain ⟨⟨⟨h1, h2⟩, h3⟩, h4⟩ := h
    have part : ∀ {ie : IE} {o : Option Expr}, SO bo cs φ ie → oB o (isNil ie) (fun l => !isNil ie && okE ie c l && !iterOnly ie) = true →
        (o = none ∧ ie = .nil ∧ ev φ ie = fun _ b => .ok (.list []) b) ∨ ∃ le, o = some le ∧ (∃ o2 f2, Snd X bo H0 cs W o2 f2 le (ev φ ie)) ∧ ie ≠ .nil := fun {ie o} s q => by
      cases o with
      | none =>
        have e := isNil_eq q
        subst e
        exact .inl ⟨rfl, rfl, rfl⟩
      | some l =>
        have q : (!isNil ie && okE ie c l && !iterOnly ie) = true := q
        simp only [Bool.and_eq_true, Bool.not_eq_true'] at q
        exact .inr ⟨l, rfl, ⟨_, _, (s.a k q.1.2 q.2).1⟩, fun z => by rw [z] at q; exact absurd q.1.1 (by decide)⟩
    exact ⟨snd_slc (sa.a k h1 h2).1 (part sl h3) (part sh h4), fun _ _ _ z => nomatch z⟩) rfl (fun _ _ _ => rfl) (fun _ _ => rfl)
theorem so_rev {a : IE} (sa : SO bo cs φ a) : SO bo cs φ (.rev a) := SO.val (fun {c X H0 W e} k h _ => by
  match e, h with
  | .Subscript x (.Slice none none (some (.UnaryOp .USub (.Constant (.int 1) _ _) _)) _) _, h =>
    have h : (okE a c x && !iterOnly a) = true := h
    simp only [Bool.and_eq_true, Bool.not_eq_true'] at h
    exact ⟨snd_rev (sa.a k h.1 h.2).1, fun _ _ _ z => nomatch z⟩) rfl (fun _ _ _ => rfl) (fun _ _ => rfl)
end
end Dv
/-! text DY -/
set_option Elab.async false
set_option linter.all false
set_option maxRecDepth 100000
set_option maxHeartbeats 4000000
namespace Dv
open PySem PySem.Spec PyProof.Rows L2

/-! ### sets of keys (ints, texts) that can be walked -/
def keyV : Value → Key
  | .int k _ => .inl k
  | .str x _ => .inr x
  | _ => .inl 0
abbrev kE (e : Int × Value) : Key := keyV e.2
def KeE (w : World) (e : Int × Value) : Prop := keyIs (kE e) e.2 = true ∧ e.1 = keyH w (kE e)
theorem keyV_of {k : Key} {x : Value} (h : keyIs k x = true) : keyV x = k := by
  rcases keyIs_shape h with ⟨i, t, rfl, rfl⟩ | ⟨z, t, rfl, rfl⟩ <;> rfl
theorem scan_of {k : Key} {x : Value} (h : keyIs k x = true) : x.scannable = true := by
  rcases keyIs_shape h with ⟨i, t, rfl, rfl⟩ | ⟨z, t, rfl, rfl⟩ <;> rfl
/-- the table can be walked -/
def Wkb (w : World) (t : SetTable) : Prop := Ris t.place.toList ∧ (w.params.followText "set-order" = true ∨ t.led = true)
/-- at a the set of the keys ks -/
def SetW (w : World) (h : Heap) (a : Addr) (ks : List Key) : Prop :=
  ∃ o es ep t, h.get? a = some o ∧ o.ExactSet ∧ o.data = .set es ep t ∧ (∀ e ∈ es.toList, KeE w e) ∧ (es.toList.map kE).Perm ks ∧ ks.Nodup ∧ es.size < scanBound ∧ t.fits es.size = true ∧ Wkb w t
def kin (ks : List Key) (k : Key) : Bool := ks.any fun x => decide (x = k)
theorem kin_iff {ks : List Key} {k : Key} : kin ks k = true ↔ k ∈ ks := by
  unfold kin
  rw [List.any_eq_true]
  constructor
  · rintro ⟨x, hx, e⟩
    rw [← of_decide_eq_true e]
    exact hx
  · intro h
    exact ⟨k, h, decide_eq_true rfl⟩
def kput (ks : List Key) (k : Key) : List Key := if kin ks k = true then ks else ks ++ [k]
def kdd : List Key → List Key → List Key
  | ds, [] => ds
  | ds, k :: ks => kdd (kput ds k) ks
theorem kput_length (ks : List Key) (k : Key) : (kput ks k).length ≤ ks.length + 1 := by
  unfold kput
  split
  · omega
  · simp
section
variable {P : Program} {w : World} {A : Around} {E : Value → Shared → Prop} {s : Shared} {a : Addr} {ks : List Key}
theorem SetW.keep {h h' : Heap} (R : SetW w h a ks) (k : ∀ o, h.get? a = some o → h'.get? a = some o) : SetW w h' a ks := by
  obtain ⟨o, es, ep, t, ho, r⟩ := R
  exact ⟨o, es, ep, t, k o ho, r⟩
theorem kes_elems {l : List (Int × Value)} (g : ∀ e ∈ l, KeE w e) : ElemsOf (mixKind P w) l := fun e he => ⟨⟨kE e, (g e he).1, (g e he).2⟩, scan_of (g e he).1⟩
theorem kes_is {e : Int × Value} (g : KeE w e) (k : Key) : (mixKind P w).is k e.2 = true ↔ kE e = k := by
  constructor
  · intro h
    exact keyV_of h
  · intro h
    subst h
    exact g.1
theorem put_at {h : Heap} {o : Obj} {es es' : Array (Int × Value)} {ep : Nat} {t t' : SetTable} (ho : h.get? a = some o) (hd : o.data = .set es ep t) : (h.update a (Obj.putSet es' t')).get? a = some { o with data := .set es' (ep + 1) t' } := by
  have z := putSet_of es' t' hd
  have q := Heap.get?_update_self (Obj.putSet es' t') ho (by rw [z]; rfl)
  rw [z] at q
  exact q
/-- what is stored behind an add: the new entry, perhaps a greater table -/
theorem add_tail {g : Bool → Sem Unit} {o : Obj} {es es1 : Array (Int × Value)} {ep : Nat} {t t2 : SetTable} {dm : Bool} {R : Option Bool → Shared → Prop} (hg : ∀ (b : Bool) (s₁ : Shared) (Q' : Unit → Shared → Prop), Q' () s₁ → wpAny (model P w) A (g b) Q' E s₁)
    (ho : s.heap.get? a = some o) (hx : o.ExactSet) (hd : o.data = .set es ep t) (g1 : ∀ e ∈ es1.toList, KeE w e) (p1 : (es1.toList.map kE).Perm ks) (nd : ks.Nodup) (hb : es1.size < scanBound) (hf : t2.fits es1.size = true) (hw : Wkb w t2)
    (k : ∀ h', Heap.SameBut a s.heap h' → SetW w h' a ks → R (some true) { s with heap := h' }) :
    wpAny (model P w) A (do
        storeSet a es1 t2
        if (!dm && t2.tooFull) = true then do
            g (relayAll t2 es1 (SetTable.grown es1.size)).2.2
            storeSet a (relayAll t2 es1 (SetTable.grown es1.size)).1 (relayAll t2 es1 (SetTable.grown es1.size)).2.1
            pure (some true)
          else pure (some true)) R E s := by
  have m1 := Heap.SameBut.update s.heap a (Obj.putSet es1 t2)
  have w1 := put_at (es' := es1) (t' := t2) ho hd
  refine wpAny_bind (wpAny_storeSet_of ho hd ?_ (fits_of_scanBound hb))
  by_cases c : (!dm && t2.tooFull) = true
  · rw [if_pos c]
    have q1 := relayAll_perm t2 es1 (SetTable.grown es1.size)
    have q2 := relayAll_fits t2 es1 (SetTable.grown es1.size)
    have q3 : Wkb w (relayAll t2 es1 (SetTable.grown es1.size)).2.1 := ⟨relayAll_ris _ _ _, hw.2.imp id fun z => by rw [relayAll_led]; exact z⟩
    generalize relayAll t2 es1 (SetTable.grown es1.size) = Z at q1 q2 q3 ⊢
    have hz : Z.1.size = es1.size := by rw [← Array.length_toList, q1.length_eq, Array.length_toList]
    have hzb : Z.1.size < scanBound := by rw [hz]; exact hb
    refine wpAny_bind (hg _ _ _ (wpAny_bind (wpAny_storeSet_of w1 rfl (wpAny_pure (k _ (m1.trans (Heap.SameBut.update _ a _)) ?_)) (fits_of_scanBound hzb))))
    exact ⟨_, Z.1, _, Z.2.1, put_at w1 rfl, hx, rfl, fun e he => g1 e (q1.mem_iff.mp he), (q1.map kE).trans p1, nd, hzb, q2, q3⟩
  · rw [if_neg c]
    exact wpAny_pure (k _ m1 ⟨_, es1, _, t2, w1, hx, rfl, g1, p1, nd, hb, hf, hw⟩)
theorem setW_add {k : Key} {x : Value} {Q : Bool → Shared → Prop} (R : SetW w s.heap a ks) (hx : keyIs k x = true) (room : ks.length + 1 < scanBound)
    (hQ : ∀ h', Heap.SameBut a s.heap h' → SetW w h' a (kput ks k) → Q (!kin ks k) { s with heap := h' }) : wpAny (model P w) A (setAddHashed a x ((mixKind P w).hash k)) Q E s := by
  obtain ⟨o, es, ep, t, ho, hex, hd, g, pm, nd, hb, hf, hw⟩ := R
  have hk : (mixKind P w).is k x = true := hx
  have hel : ElemsOf (mixKind P w) es.toList := kes_elems g
  have hn : es.size = ks.length := by rw [← Array.length_toList, ← pm.length_eq, List.length_map]
  have hmem : k ∈ ks ↔ ∃ e ∈ es.toList, (mixKind P w).is k e.2 = true := by
    rw [← pm.mem_iff, List.mem_map]
    exact ⟨fun ⟨e, he, q⟩ => ⟨e, he, (kes_is (g e he) k).mpr q⟩, fun ⟨e, he, q⟩ => ⟨e, he, (kes_is (g e he) k).mp q⟩⟩
  unfold setAddHashed setAddHashedIn
  refine wpAny_holding (wpAny_bind (wpAny_setState_of ho hd hf ?_))
  dsimp only
  rw [byScan_of (scan_of hx) hb hel, if_pos rfl]
  unfold setAddByScan
  refine wpAny_bind (wpAny_bind (wpAny_rule (wpAny_bind (wpAny_setScan_of hk ho hd hf hel ?_))))
  cases c : List.findIdx? (fun e => (mixKind P w).is k e.2) es.toList with
  | some j =>
    obtain ⟨j1, j2, _⟩ := List.findIdx?_eq_some_iff_getElem.mp c
    have hin : k ∈ ks := hmem.mpr ⟨_, List.getElem_mem j1, j2⟩
    have q := hQ s.heap (Heap.SameBut.refl a s.heap) ⟨o, es, ep, t, ho, hex, hd, g, by unfold kput; rw [if_pos (kin_iff.mpr hin)]; exact pm, by unfold kput; rw [if_pos (kin_iff.mpr hin)]; exact nd, hb, hf, hw⟩
    rw [kin_iff.mpr hin] at q
    exact wpAny_pure (wpAny_pure q)
  | none =>
    have hout : k ∉ ks := fun z => by
      obtain ⟨e, he, q⟩ := hmem.mp z
      have r := List.findIdx?_eq_none_iff.mp c e he
      rw [q] at r
      cases r
    dsimp only
    have gw : ∀ (b : Bool) (s₁ : Shared) (Q' : Unit → Shared → Prop), Q' () s₁ → wpAny (model P w) A (match b with | true => rule "set.scan.the-table-gave-way" | false => pure ()) Q' E s₁ := fun b s₁ Q' q => by
      cases b
      · exact wpAny_pure q
      · exact wpAny_rule q
    have q1 := layNew_perm t es ((mixKind P w).hash k) x
    have q2 := layNew_fits t es ((mixKind P w).hash k) x
    have q3 : Wkb w (layNew t es ((mixKind P w).hash k) x).2.1 := ⟨layNew_ris t es _ x hw.1, hw.2.imp id fun z => by rw [layNew_led]; exact z⟩
    generalize layNew t es ((mixKind P w).hash k) x = Z at q1 q2 q3 ⊢
    obtain ⟨es1, t1, dm, gv⟩ := Z
    rw [Array.toList_push] at q1
    dsimp only at q1 q2 q3 ⊢
    have pc := q1.trans (List.perm_append_singleton _ _)
    have g1 : ∀ e ∈ es1.toList, KeE w e := fun e he => by
      rcases List.mem_cons.mp (pc.mem_iff.mp he) with z | z
      · rw [z]
        show keyIs (keyV x) x = true ∧ keyH w k = keyH w (keyV x)
        rw [keyV_of hx]
        exact ⟨hx, rfl⟩
      · exact g e z
    have hkf : kin ks k = false := by
      cases z : kin ks k with
      | false => rfl
      | true => exact absurd (kin_iff.mp z) hout
    have kp : kput ks k = ks ++ [k] := by unfold kput; rw [hkf]; rfl
    have p1 : (es1.toList.map kE).Perm (kput ks k) := by
      rw [kp]
      refine (q1.map kE).trans ?_
      rw [List.map_append]
      have ek : List.map kE [((mixKind P w).hash k, x)] = [k] := by
        show [keyV x] = [k]
        rw [keyV_of hx]
      rw [ek]
      exact pm.append_right [k]
    have nd1 : (kput ks k).Nodup := by
      rw [kp, List.nodup_append]
      exact ⟨nd, by simp, fun u hu v hv z => hout (by rw [List.mem_singleton.mp hv] at z; rw [← z]; exact hu)⟩
    have hz : es1.size = ks.length + 1 := by rw [← Array.length_toList, pc.length_eq, List.length_cons, Array.length_toList, hn]
    have hb1 : es1.size < scanBound := by rw [hz]; exact room
    have fin : ∀ h', Heap.SameBut a s.heap h' → SetW w h' a (kput ks k) → Q true { s with heap := h' } := fun h' sb r => by
      have q := hQ h' sb r
      rw [hkf] at q
      exact q
    refine wpAny_bind (gw _ _ _ ?_)
    by_cases cp : t1.plain = true
    · rw [if_pos cp]
      refine wpAny_bind ?_
      rw [hashByValue_scannable 8 (scan_of hx)]
      refine wpAny_pure ?_
      refine add_tail gw ho hex hd g1 p1 nd1 hb1 ?_ ?_ fun h' sb r => wpAny_pure (fin h' sb r)
      · by_cases cq : plainKind x = true
        · rw [if_pos cq]; exact q2
        · rw [if_neg cq]; exact SetTable.fits_plain_off q2
      · by_cases cq : plainKind x = true
        · rw [if_pos cq]; exact q3
        · rw [if_neg cq]; exact q3
    · rw [if_neg cp]
      refine wpAny_bind (wpAny_pure ?_)
      rw [if_pos rfl]
      exact add_tail gw ho hex hd g1 p1 nd1 hb1 q2 q3 fun h' sb r => wpAny_pure (fin h' sb r)
end

/-! ### set(xs) -/
theorem kdd_take {xs : List Key} {i : Nat} {k : Key} (h : xs[i]? = some k) : kdd [] (xs.take (i + 1)) = kput (kdd [] (xs.take i)) k := by
  have gen : ∀ (ds ys : List Key), kdd ds (ys ++ [k]) = kput (kdd ds ys) k := fun ds ys => by
    induction ys generalizing ds with
    | nil => rfl
    | cons y ys ih => exact ih _
  rw [List.take_add_one, h]
  exact gen _ _
theorem kdd_length : ∀ (xs ds : List Key), (kdd ds xs).length ≤ ds.length + xs.length
  | [], ds => Nat.le_refl _
  | x :: xs, ds => by
    have h1 := kdd_length xs (kput ds x)
    have h2 := kput_length ds x
    show (kdd (kput ds x) xs).length ≤ ds.length + (xs.length + 1)
    omega
section
variable {P : Program} {w : World} {A : Around} {E : Value → Shared → Prop} {s : Shared}
theorem setW_loop {I : Addr} {fp wr : List Addr} {G : Array GenState → Array GenState → Prop} {n : Nat} {Pv : Nat → Value → Prop} {St : Nat → Shared → Prop} {R : Result → Shared → Prop} (Wk : WalksS P w A.in1 I fp wr G n Pv St) (S : Addr) (hS : S ∉ fp) (xs : List Key)
    (hn : n = xs.length) (hb : xs.length + 1 < scanBound) (hv : ∀ i v, Pv i v → ∃ k, xs[i]? = some k ∧ keyIs k v = true) (fin : ∀ s', Moved (S :: wr) G s s' → SetW w s'.heap S (kdd [] xs) → R (.ok (.ret .none)) s') :
    ∀ (m i : Nat) (t : Shared), m + i = n → Moved (S :: wr) G s t → St i t → SetW w t.heap S (kdd [] (xs.take i)) → codeAny (model P w) A (.builtin "set.update.loop" ⟨[.ref S, .ref I], []⟩) R t := by
  have off : S ∉ wr := fun z => hS (Wk.sub _ z)
  have inc : ∀ b ∈ wr, b ∈ S :: wr := fun b hb => List.mem_cons_of_mem _ hb
  intro m
  induction m with
  | zero =>
    intro i t e mv st hw
    refine codeAny_builtin F.entry_set_update_loop ?_
    rw [Around.under_plainId F.plain_set_update_loop _]
    show wpAny _ A.in1 (pyNext (.ref I) >>= _) _ _ t
    have ei : i = n := by omega
    subst ei
    refine wpAny_bind (Wk.done t _ _ st fun t' mt => ?_)
    rw [List.take_of_length_le (by omega)] at hw
    show wpAny _ A.in1 (ret Value.none) _ _ t'
    exact wpAny_pure (fin t' (mv.trans Wk.gtrans (mt.mono inc)) (hw.keep fun o q => mt.heap S o off q))
  | succ m ih =>
    intro i t e mv st hw
    refine codeAny_builtin F.entry_set_update_loop ?_
    rw [Around.under_plainId F.plain_set_update_loop _]
    show wpAny _ A.in1 (pyNext (.ref I) >>= _) _ _ t
    have hlt : i < n := by omega
    refine wpAny_bind (Wk.item i t _ _ hlt st fun v t' pv st' mt => ?_)
    obtain ⟨k, hk, hx⟩ := hv i v pv
    have hw' : SetW w t'.heap S (kdd [] (xs.take i)) := hw.keep fun o q => mt.heap S o off q
    show wpAny _ A.in1 (holding [v] (setAdd S v) >>= _) _ _ t'
    unfold setAdd
    refine wpAny_bind (wpAny_holding (wpAny_holding (wpAny_bind ((mixKind P w).pyHash (k := k) hx ?_))))
    have room : (kdd [] (xs.take i)).length + 1 < scanBound := by
      have h1 := kdd_length (xs.take i) []
      rw [List.length_take, List.length_nil] at h1
      omega
    refine setW_add (s := { t' with toks := t'.toks + 1 }) hw' hx room fun h' sb r => ?_
    rw [← kdd_take hk] at r
    have oth : ∀ b o, b ≠ S → t'.heap.get? b = some o → h'.get? b = some o := fun b o q z => (sb.2 b q).trans z
    refine wpAny_pure ⟨plainId_quiet F.plain_set_update_loop _, ih (i + 1) _ (by omega) ?_ (Wk.frame _ t' _ _ st' (Nat.le_succ _) fun b hb o z => oth b o (fun q => hS (q ▸ hb)) z) r⟩
    exact mv.trans Wk.gtrans ((mt.mono inc).then_heap (Nat.le_succ _) fun b o q z => oth b o (fun y => q (y ▸ List.mem_cons_self)) z)
theorem setW_new {h : Heap} {a : Addr} (ho : h.get? a = some { cls := .type "set", dict := none, data := .set #[] 0 (.fresh 0 0 (!w.params.followText "set-order")) }) : SetW w h a [] := by
  refine ⟨_, #[], 0, _, ho, ⟨rfl, rfl, rfl⟩, rfl, (fun e he => by simp at he), by simp, List.nodup_nil, by decide, rfl, List.Pairwise.nil, ?_⟩
  cases q : w.params.followText "set-order" with
  | true => exact .inl rfl
  | false => exact .inr rfl
/-- the keys of values -/
inductive KeysAre : List Value → List Key → Prop
  | nil : KeysAre [] []
  | cons {v : Value} {k : Key} {vs : List Value} {ks : List Key} : keyIs k v = true → KeysAre vs ks → KeysAre (v :: vs) (k :: ks)
theorem KeysAre.length : ∀ {vs : List Value} {ks : List Key}, KeysAre vs ks → vs.length = ks.length
  | _, _, .nil => rfl
  | _, _, .cons _ t => congrArg (· + 1) t.length
theorem KeysAre.at : ∀ {vs : List Value} {ks : List Key} {i : Nat} {v : Value}, KeysAre vs ks → vs[i]? = some v → ∃ k, ks[i]? = some k ∧ keyIs k v = true
  | _, _, _, _, .nil, e => by simp at e
  | _, _, 0, _, .cons h _, e => by
    simp at e
    subst e
    exact ⟨_, rfl, h⟩
  | _, _, i + 1, _, .cons _ t, e => by
    obtain ⟨k, h1, h2⟩ := t.at (i := i) (by simpa using e)
    exact ⟨k, by simpa using h1, h2⟩

end
end Dv
/-! text DX1 -/
set_option Elab.async false
set_option linter.all false
set_option maxRecDepth 100000
set_option maxHeartbeats 4000000
namespace Dv
open PySem PySem.Spec PyProof.Rows L2
section
variable {P : Program} {w : World} {A : Around} {E : Value → Shared → Prop} {s : Shared}

theorem call_set_listK {l : Addr} {its : Array Value} {xs : List Key} {Q : Value → Shared → Prop} (hh : A.handled = none) (hl : s.heap.IsList l its) (hk : KeysAre its.toList xs) (hb : xs.length + 1 < scanBound)
    (q : ∀ (h' : Heap) (tk : Nat), SetW w h' s.heap.objs.size (kdd [] xs) → (∀ b o, s.heap.get? b = some o → h'.get? b = some o) → Q (.ref s.heap.objs.size) { s with heap := h', toks := tk }) : wpAny (model P w) A (call (.type "set") [.ref l]) Q E s := by
  have nn : its.size = xs.length := by rw [← Array.length_toList, hk.length]
  obtain ⟨cm, ctl, hmro⟩ := F.called_set.mro
  have c1 := F.called_set.made
  have c2 := F.called_set.sub
  have c3 := F.called_set.notType
  have c4 := F.called_set.canCreate
  have c5 := F.typeCall_set_1 (.ref l)
  refine wpAny_call (codeAny_of_tree ?_)
  show wpAny _ _ (callAny (.type "set") _) _ _ _
  refine wpAny_pure ⟨Code.quiet_builtin _ (by decide +kernel), codeAny_builtin F.entry_type_call ?_⟩
  rw [Around.under_plain (weight_type_call_type "set" [.ref l] []) rfl]
  repeat (any_goals (first | assumption | wp_step))
  refine codeAny_mono (code_set_led1 (.ref l) (E := E) (Q₁ := fun ob s1 => ob = .ref s.heap.objs.size ∧ s1 = { s with heap := s.heap.push { cls := .type "set", dict := none, data := .set #[] 0 (.fresh 0 0 (!w.params.followText "set-order")) } }) ⟨rfl, rfl⟩) fun r s1 hr => ?_
  match r, hr with
  | .error e, hr => exact hr
  | .ok (.ret ob), hr =>
    obtain ⟨rfl, rfl⟩ := hr
    have hS : (s.heap.push { cls := .type "set", dict := none, data := .set #[] 0 (.fresh 0 0 (!w.params.followText "set-order")) }).get? s.heap.objs.size = some { cls := .type "set", dict := none, data := .set #[] 0 (.fresh 0 0 (!w.params.followText "set-order")) } := Heap.get?_push_size _ rfl
    have hT : Shared.TypeIs { s with heap := s.heap.push { cls := .type "set", dict := none, data := .set #[] 0 (.fresh 0 0 (!w.params.followText "set-order")) } } (.ref s.heap.objs.size) "set" := ⟨_, hS, rfl⟩
    have c6 := F.called_set.init.lookup
    have c7 := F.called_set.init.bind (.ref s.heap.objs.size)
    repeat (any_goals (first | assumption | wp_step))
    refine codeAny_mono (codeAny_call_builtin (R := wants (fun r s2 => r = .none ∧ ∃ h' tk, s2 = { s with heap := h', toks := tk } ∧ SetW w h' s.heap.objs.size (kdd [] xs) ∧ ∀ b o, s.heap.get? b = some o → h'.get? b = some o) E)
      F.called_set.init.plain F.entry_set_init (check_set_init_1 hT ?_)) fun r2 s2 hr2 => ?_
    · obtain ⟨ol, hol, hcl, nl, hdl⟩ := hl
      obtain ⟨ocls, odict, odata, oslots⟩ := ol
      simp only at hcl hdl
      subst hcl
      subst hdl
      have hol' : (s.heap.push { cls := .type "set", dict := none, data := .set #[] 0 (.fresh 0 0 (!w.params.followText "set-order")) }).get? l = some { cls := .type "list", dict := odict, data := .seq its nl, slots := oslots } := Heap.get?_push_of_some _ hol
      have hl1 : (s.heap.push { cls := .type "set", dict := none, data := .set #[] 0 (.fresh 0 0 (!w.params.followText "set-order")) }).IsList l its := ⟨_, hol', rfl, nl, rfl⟩
      have d1 := F.sub_list_set
      have d2 := F.sub_list_frozenset
      have d3 : (Value.type "list" == Value.type "dict") = false := by decide
      unfold Builtin.«set.__init__» noKeywords Builtin.Frozenset.updateFrom
      generalize hPI : pyIter = PI
      wp_walk
      subst hPI
      refine wpAny_pyIter_list hl1 ?_
      refine wpAny_bind (wpAny_runValue ?_)
      have ll : l < s.heap.objs.size := Heap.lt_size hol
      have hn3 : A.in1.in1.in1.handled = none := by simp [hh]
      have ne1 : l ≠ (s.heap.push { cls := .type "set", dict := none, data := .set #[] 0 (.fresh 0 0 (!w.params.followText "set-order")) }).objs.size := by
        rw [Heap.size_push]
        exact Nat.ne_of_lt (Nat.lt_succ_of_lt ll)
      have ne2 : s.heap.objs.size ∉ [(s.heap.push { cls := .type "set", dict := none, data := .set #[] 0 (.fresh 0 0 (!w.params.followText "set-order")) }).objs.size, l] := by
        rw [Heap.size_push]
        simp only [List.mem_cons, List.not_mem_nil, or_false, not_or]
        exact ⟨Nat.ne_of_lt (Nat.lt_succ_self _), Nat.ne_of_gt ll⟩
      refine setW_loop ((Walks.list hn3 _ l ne1 its).toS) s.heap.objs.size ne2 xs nn hb (fun i v hv => hk.at (by rw [Array.getElem?_toList]; exact hv)) (fun s' mv r => ?_) its.size 0 _ (Nat.add_zero _) (Moved.refl fun _ => rfl) ⟨⟨_, Heap.get?_push_size _ rfl, rfl, rfl⟩, hl1.push _⟩ ?_
      · obtain ⟨h', g', d', tk', os'⟩ := s'
        have e1 : g' = s.gens := mv.gens
        have e2 : d' = s.drawn := mv.drawn
        have e3 : os' = s.os := mv.os
        subst e1 e2 e3
        show wpAny _ _ _ _ _ _
        refine wpAny_pure ?_
        show wpAny _ _ (ret Value.none) _ _ _
        refine wpAny_pure ⟨rfl, h', tk', rfl, r, fun b o z => ?_⟩
        have b0 : b < s.heap.objs.size := Heap.lt_size z
        refine mv.heap b o ?_ (Heap.get?_push_of_some _ (Heap.get?_push_of_some _ z))
        rw [Heap.size_push]
        simp only [List.mem_cons, List.not_mem_nil, or_false, not_or]
        exact ⟨Nat.ne_of_lt b0, Nat.ne_of_lt (Nat.lt_succ_of_lt b0)⟩
      · exact setW_new (Heap.get?_push_of_some _ hS)
    · match r2, hr2 with
      | .error e, hr2 => exact hr2
      | .ok (.ret v), hr2 =>
        obtain ⟨rfl, h', tk, rfl, m1, m2⟩ := hr2
        repeat (any_goals (first | assumption | wp_step))
        exact q _ _ m1 m2
      | .ok .next, hr2 => exact hr2.elim
      | .ok .brk, hr2 => exact hr2.elim
      | .ok .cont, hr2 => exact hr2.elim
  | .ok .next, hr => exact hr.elim
  | .ok .brk, hr => exact hr.elim
  | .ok .cont, hr => exact hr.elim

end
end Dv
/-! text DX2 -/
set_option Elab.async false
set_option linter.all false
set_option maxRecDepth 100000
set_option maxHeartbeats 4000000
namespace Dv
open PySem PySem.Spec PyProof.Rows L2
section
variable {P : Program} {w : World} {A : Around} {E : Value → Shared → Prop} {s : Shared}

theorem call_set_tupleK {l : Addr} {its : Array Value} {xs : List Key} {Q : Value → Shared → Prop} (hh : A.handled = none) (hl : s.heap.IsTuple l its) (hk : KeysAre its.toList xs) (hb : xs.length + 1 < scanBound)
    (q : ∀ (h' : Heap) (tk : Nat), SetW w h' s.heap.objs.size (kdd [] xs) → (∀ b o, s.heap.get? b = some o → h'.get? b = some o) → Q (.ref s.heap.objs.size) { s with heap := h', toks := tk }) : wpAny (model P w) A (call (.type "set") [.ref l]) Q E s := by
  have nn : its.size = xs.length := by rw [← Array.length_toList, hk.length]
  obtain ⟨cm, ctl, hmro⟩ := F.called_set.mro
  have c1 := F.called_set.made
  have c2 := F.called_set.sub
  have c3 := F.called_set.notType
  have c4 := F.called_set.canCreate
  have c5 := F.typeCall_set_1 (.ref l)
  refine wpAny_call (codeAny_of_tree ?_)
  show wpAny _ _ (callAny (.type "set") _) _ _ _
  refine wpAny_pure ⟨Code.quiet_builtin _ (by decide +kernel), codeAny_builtin F.entry_type_call ?_⟩
  rw [Around.under_plain (weight_type_call_type "set" [.ref l] []) rfl]
  repeat (any_goals (first | assumption | wp_step))
  refine codeAny_mono (code_set_led1 (.ref l) (E := E) (Q₁ := fun ob s1 => ob = .ref s.heap.objs.size ∧ s1 = { s with heap := s.heap.push { cls := .type "set", dict := none, data := .set #[] 0 (.fresh 0 0 (!w.params.followText "set-order")) } }) ⟨rfl, rfl⟩) fun r s1 hr => ?_
  match r, hr with
  | .error e, hr => exact hr
  | .ok (.ret ob), hr =>
    obtain ⟨rfl, rfl⟩ := hr
    have hS : (s.heap.push { cls := .type "set", dict := none, data := .set #[] 0 (.fresh 0 0 (!w.params.followText "set-order")) }).get? s.heap.objs.size = some { cls := .type "set", dict := none, data := .set #[] 0 (.fresh 0 0 (!w.params.followText "set-order")) } := Heap.get?_push_size _ rfl
    have hT : Shared.TypeIs { s with heap := s.heap.push { cls := .type "set", dict := none, data := .set #[] 0 (.fresh 0 0 (!w.params.followText "set-order")) } } (.ref s.heap.objs.size) "set" := ⟨_, hS, rfl⟩
    have c6 := F.called_set.init.lookup
    have c7 := F.called_set.init.bind (.ref s.heap.objs.size)
    repeat (any_goals (first | assumption | wp_step))
    refine codeAny_mono (codeAny_call_builtin (R := wants (fun r s2 => r = .none ∧ ∃ h' tk, s2 = { s with heap := h', toks := tk } ∧ SetW w h' s.heap.objs.size (kdd [] xs) ∧ ∀ b o, s.heap.get? b = some o → h'.get? b = some o) E)
      F.called_set.init.plain F.entry_set_init (check_set_init_1 hT ?_)) fun r2 s2 hr2 => ?_
    · obtain ⟨ol, hol, hcl, nl, hdl⟩ := hl
      obtain ⟨ocls, odict, odata, oslots⟩ := ol
      simp only at hcl hdl
      subst hcl
      subst hdl
      have hol' : (s.heap.push { cls := .type "set", dict := none, data := .set #[] 0 (.fresh 0 0 (!w.params.followText "set-order")) }).get? l = some { cls := .type "tuple", dict := odict, data := .seq its nl, slots := oslots } := Heap.get?_push_of_some _ hol
      have hl1 : (s.heap.push { cls := .type "set", dict := none, data := .set #[] 0 (.fresh 0 0 (!w.params.followText "set-order")) }).IsTuple l its := ⟨_, hol', rfl, nl, rfl⟩
      have d1 := F.sub_tuple_set
      have d2 := F.sub_tuple_frozenset
      have d3 : (Value.type "tuple" == Value.type "dict") = false := by decide
      unfold Builtin.«set.__init__» noKeywords Builtin.Frozenset.updateFrom
      generalize hPI : pyIter = PI
      wp_walk
      subst hPI
      refine wpAny_pyIter_tuple hl1 ?_
      refine wpAny_bind (wpAny_runValue ?_)
      have ll : l < s.heap.objs.size := Heap.lt_size hol
      have hn3 : A.in1.in1.in1.handled = none := by simp [hh]
      have ne1 : l ≠ (s.heap.push { cls := .type "set", dict := none, data := .set #[] 0 (.fresh 0 0 (!w.params.followText "set-order")) }).objs.size := by
        rw [Heap.size_push]
        exact Nat.ne_of_lt (Nat.lt_succ_of_lt ll)
      have ne2 : s.heap.objs.size ∉ [(s.heap.push { cls := .type "set", dict := none, data := .set #[] 0 (.fresh 0 0 (!w.params.followText "set-order")) }).objs.size, l] := by
        rw [Heap.size_push]
        simp only [List.mem_cons, List.not_mem_nil, or_false, not_or]
        exact ⟨Nat.ne_of_lt (Nat.lt_succ_self _), Nat.ne_of_gt ll⟩
      refine setW_loop ((Walks.tuple hn3 _ l ne1 its).toS) s.heap.objs.size ne2 xs nn hb (fun i v hv => hk.at (by rw [Array.getElem?_toList]; exact hv)) (fun s' mv r => ?_) its.size 0 _ (Nat.add_zero _) (Moved.refl fun _ => rfl) ⟨⟨_, Heap.get?_push_size _ rfl, rfl, rfl⟩, hl1.push _⟩ ?_
      · obtain ⟨h', g', d', tk', os'⟩ := s'
        have e1 : g' = s.gens := mv.gens
        have e2 : d' = s.drawn := mv.drawn
        have e3 : os' = s.os := mv.os
        subst e1 e2 e3
        show wpAny _ _ _ _ _ _
        refine wpAny_pure ?_
        show wpAny _ _ (ret Value.none) _ _ _
        refine wpAny_pure ⟨rfl, h', tk', rfl, r, fun b o z => ?_⟩
        have b0 : b < s.heap.objs.size := Heap.lt_size z
        refine mv.heap b o ?_ (Heap.get?_push_of_some _ (Heap.get?_push_of_some _ z))
        rw [Heap.size_push]
        simp only [List.mem_cons, List.not_mem_nil, or_false, not_or]
        exact ⟨Nat.ne_of_lt b0, Nat.ne_of_lt (Nat.lt_succ_of_lt b0)⟩
      · exact setW_new (Heap.get?_push_of_some _ hS)
    · match r2, hr2 with
      | .error e, hr2 => exact hr2
      | .ok (.ret v), hr2 =>
        obtain ⟨rfl, h', tk, rfl, m1, m2⟩ := hr2
        repeat (any_goals (first | assumption | wp_step))
        exact q _ _ m1 m2
      | .ok .next, hr2 => exact hr2.elim
      | .ok .brk, hr2 => exact hr2.elim
      | .ok .cont, hr2 => exact hr2.elim
  | .ok .next, hr => exact hr.elim
  | .ok .brk, hr => exact hr.elim
  | .ok .cont, hr => exact hr.elim
end
end Dv
/-! text DX3 -/
set_option Elab.async false
set_option linter.all false
set_option maxRecDepth 100000
set_option maxHeartbeats 4000000
namespace Dv
open PySem PySem.Spec PyProof.Rows L2 PySem.W

/-! ### keys as data -/
theorem any_kin (acc : List Key) (k : Key) : ((acc.map keyD).any fun y => keyEq0 y (keyD k)) = kin acc k := by
  unfold kin
  rw [List.any_map]
  congr 1
  funext x
  exact keyEq0_D x k
theorem dedD_keys : ∀ (ks acc : List Key), dedD (acc.map keyD) (ks.map keyD) = (kdd acc ks).map keyD
  | [], acc => rfl
  | k :: ks, acc => by
    show dedD (if (acc.map keyD).any (fun y => keyEq0 y (keyD k)) then acc.map keyD else acc.map keyD ++ [keyD k]) (ks.map keyD) = (kdd (kput acc k) ks).map keyD
    rw [any_kin, ← dedD_keys ks (kput acc k)]
    unfold kput
    cases kin acc k with
    | true => rfl
    | false => rw [if_neg Bool.false_ne_true, if_neg Bool.false_ne_true, List.map_append] <;> rfl
theorem keys_of : ∀ {xs : List P}, xs.all isKey0 = true → ∃ ks : List Key, xs = ks.map keyD
  | [], _ => ⟨[], rfl⟩
  | x :: xs, h => by
    rw [List.all_cons, Bool.and_eq_true] at h
    obtain ⟨ks, rfl⟩ := keys_of h.2
    cases x with
    | int i => exact ⟨.inl i :: ks, rfl⟩
    | str z => exact ⟨.inr z :: ks, rfl⟩
    | _ => cases h.1
theorem rpA_keys {F : Hp} : ∀ {ws : List V} {ks : List Key}, RpA F ws (ks.map keyD) → ws = ks.map kV
  | _, [], .nil => rfl
  | _, k :: ks, .cons r t => by
    rw [rpA_keys t, List.map_cons]
    congr 1
    cases k with
    | inl i => cases r; rfl
    | inr z => cases r; rfl
theorem keys_rpA {F : Hp} : ∀ (ks : List Key), RpA F (ks.map kV) (ks.map keyD)
  | [] => .nil
  | .inl i :: ks => .cons (.int i) (keys_rpA ks)
  | .inr z :: ks => .cons (.str z) (keys_rpA ks)
theorem vals_keys : ∀ {ks : List Key} {us : List Value}, Vals (ks.map kV) us → KeysAre us ks
  | [], _, .nil => .nil
  | .inl i :: ks, _, .cons r t => .cons (by
      obtain ⟨t, rfl⟩ := r
      exact keyIs_int _ _) (vals_keys t)
  | .inr i :: ks, _, .cons r t => .cons (by
      obtain ⟨t, rfl⟩ := r
      exact keyIs_str _ _) (vals_keys t)
theorem keys_vals : ∀ {ks : List Key} {us : List Value}, KeysAre us ks → Vals (ks.map kV) us
  | _, _, .nil => .nil
  | _, _, .cons h t => .cons (by
      rcases keyIs_shape h with ⟨i, t, rfl, rfl⟩ | ⟨z, t, rfl, rfl⟩
      · exact ⟨t, rfl⟩
      · exact ⟨t, rfl⟩) (keys_vals t)
theorem keysAre_of {w : World} : ∀ {l : List (Int × Value)}, (∀ e ∈ l, KeE w e) → KeysAre (l.map (·.2)) (l.map kE)
  | [], _ => .nil
  | e :: l, g => .cons (g e List.mem_cons_self).1 (keysAre_of fun x hx => g x (List.mem_cons_of_mem _ hx))
theorem keysAre_perm : ∀ {vs us : List Value}, vs.Perm us → ∀ {ks : List Key}, KeysAre vs ks → ∃ js, js.Perm ks ∧ KeysAre us js := by
  intro vs us p
  induction p with
  | nil => exact fun {ks} h => ⟨ks, List.Perm.refl _, h⟩
  | cons x p ih =>
    intro ks h
    cases h with
    | cons hx ht =>
      obtain ⟨js, j1, j2⟩ := ih ht
      exact ⟨_ :: js, j1.cons _, .cons hx j2⟩
  | swap x y l =>
    intro ks h
    cases h with
    | cons hx ht =>
      cases ht with
      | cons hy ht => exact ⟨_, List.Perm.swap _ _ _, .cons hy (.cons hx ht)⟩
  | trans p q i1 i2 =>
    intro ks h
    obtain ⟨js, j1, j2⟩ := i1 h
    obtain ⟨is, j3, j4⟩ := i2 j2
    exact ⟨is, j3.trans j1, j4⟩

/-! ### sorted keys are told by the keys -/
theorem leD_int (i j : Int) : leD (.int i) (.int j) = decide (i ≤ j) := by
  have h := PySem.W.dataLe_int (fun i : Int => i)
  exact congrFun (congrFun h i) j
theorem leD_str (x y : Str) : leD (.str x) (.str y) = decide (x.cps.toList ≤ y.cps.toList) := by
  have h := PySem.W.dataLe_str (fun x : Str => x)
  exact congrFun (congrFun h x) y
theorem leD_anti {a b : Key} (ha : PySem.W.alike (keyD a) (keyD b) = true) (h1 : leD (keyD a) (keyD b) = true) (h2 : leD (keyD b) (keyD a) = true) : keyD a = keyD b := by
  cases a with
  | inl i =>
    cases b with
    | inl j =>
      have h1 : leD (.int i) (.int j) = true := h1
      have h2 : leD (.int j) (.int i) = true := h2
      rw [leD_int] at h1 h2
      have := of_decide_eq_true h1
      have := of_decide_eq_true h2
      have e : i = j := by omega
      rw [e]
    | inr y => exact nomatch (show false = true from ha)
  | inr x =>
    cases b with
    | inl j => exact nomatch (show false = true from ha)
    | inr y =>
      have h1 : leD (.str x) (.str y) = true := h1
      have h2 : leD (.str y) (.str x) = true := h2
      rw [leD_str] at h1 h2
      have e := List.le_antisymm (of_decide_eq_true h1) (of_decide_eq_true h2)
      obtain ⟨⟨xl⟩⟩ := x
      obtain ⟨⟨yl⟩⟩ := y
      have e : xl = yl := e
      rw [e]
theorem sortD_perm {xs ys : List P} (p : xs.Perm ys) (an : ∀ a ∈ xs, ∀ b ∈ xs, leD a b = true → leD b a = true → a = b) : sortD leD xs = sortD leD ys := by
  rw [← sortD_merge leD_total, ← sortD_merge leD_total]
  have q1 := PySem.W.sort_pairwise leD_total xs
  have q2 := PySem.W.sort_pairwise leD_total ys
  have p1 := List.mergeSort_perm xs leD
  have p2 := List.mergeSort_perm ys leD
  exact List.Perm.eq_of_pairwise (le := fun a b => leD a b = true) (fun a b ha hb h1 h2 => an a (p1.mem_iff.mp ha) b (p.mem_iff.mpr (p2.mem_iff.mp hb)) h1 h2) q1 q2 ((p1.trans p).trans p2.symm)
def SetO' (w : World) (a : Addr) (ks : List Key) : HO := .ext fun h => SetW w h a ks
section
variable {X : Cx}
theorem setO'_ok {P : Program} {w : World} {H : Hp} {h : Heap} {a : Addr} {ks : List Key} (R : SetW w h a ks) : ObjOk P w H h a (SetO' w a ks) := by
  have R' := R
  obtain ⟨o, es, ep, t, ho, r⟩ := R'
  exact ⟨R, ⟨o, ho⟩, fun h1 h2 p k => p.keep k⟩
theorem setO'_get {pins : List (Addr × Obj)} {σ : L2.St} {H : Hp} {s : Shared} {a : Addr} {ks : List Key} (I : Inv X pins σ H s) (ha : H a = some (SetO' X.w a ks)) : SetW X.w s.heap a ks := (I.hok a _ ha).1
def rSetK (X : Cx) : List V → Hp → VK → Prop := fun vs H Q => ∃ (a : Addr) (ks : List Key), vs = [.ref a] ∧ (SqL X.K H a (ks.map kV) ∨ SqT X.K H a (ks.map kV)) ∧ ks.length + 1 < scanBound ∧ ∀ p, H p = none → Q (.ref p) (upd H p (SetO' X.w p (kdd [] ks)))
theorem cr_setK (hc : X.calm = true) : CallR X (.type "set") (rSetK X) := by
  intro pins s σ H vs us Q I r h
  obtain ⟨a, ks, rfl, sq, hb, q⟩ := h
  rw [Vals.ref1 r]
  have fin : ∀ (h' : Heap) (tk : Nat), SetW X.w h' s.heap.objs.size (kdd [] ks) → (∀ b o, s.heap.get? b = some o → h'.get? b = some o) → EP X pins σ Q (.ref s.heap.objs.size) { s with heap := h', toks := tk } := fun h' tk R k =>
    ⟨.ref _, _, I.laid (t' := tk) k (Nat.le_refl _) (setO'_ok R), rfl, q _ (I.hok.fresh (Nat.le_refl _))⟩
  rcases sq with sq | sq
  · obtain ⟨its, vals, hl, _⟩ := I.list sq
    exact call_set_listK (I.ok.hd hc) hl.isList (vals_keys vals) hb fin
  · obtain ⟨its, vals, hl, _⟩ := I.tuple sq
    exact call_set_tupleK (I.ok.hd hc) hl (vals_keys vals) hb fin
def rLenW (w : World) : List V → Hp → VK → Prop := fun vs H Q => ∃ (a : Addr) (ks : List Key), vs = [.ref a] ∧ H a = some (SetO' w a ks) ∧ Q (.int ks.length) H
theorem cr_lenW : CallR X (.builtin "len") (rLenW X.w) := by
  intro pins s σ H vs us Q I r h
  obtain ⟨a, ks, rfl, ha, q⟩ := h
  rw [Vals.ref1 r]
  obtain ⟨o, es, ep, t, ho, hex, hd, g, pm, nd, hb, hf, hw⟩ := setO'_get I ha
  have hn : es.size = ks.length := by rw [← Array.length_toList, ← pm.length_eq, List.length_map]
  refine call_len_set ho hex hd hf (by
    have : scanBound = 4096 := rfl
    omega) ⟨.int ks.length, H, I.tok _, ?_, q⟩
  rw [← hn]
  exact ⟨_, rfl⟩
def rSortW (w : World) : List V → Hp → VK → Prop := fun vs H Q => ∃ (a : Addr) (ks : List Key), vs = [.ref a] ∧ H a = some (SetO' w a ks) ∧ allAlike (ks.map keyD) = true ∧
  ∀ (js : List Key) (p : Addr), js.map keyD = sortD leD (ks.map keyD) → H p = none → Q (.ref p) (upd H p (.lst (js.map kV)))
theorem cr_sortW (hc : X.calm = true) (hu : X.A.units + 70 < cLine) : CallR X (.builtin "sorted") (rSortW X.w) := by
  intro pins s σ H vs us Q I r h
  obtain ⟨a, ks, rfl, ha, hal, q⟩ := h
  rw [Vals.ref1 r]
  obtain ⟨o, es, ep, t, ho, hex, hd, g, pm, nd, hb, hf, hw⟩ := setO'_get I ha
  have hn : es.size = ks.length := by rw [← Array.length_toList, ← pm.length_eq, List.length_map]
  refine Calls.call_function_entry kind_sorted plain_sorted entry_sorted (args_sorted1 _) ?_
  unfold Builtin.«sorted»
  refine wpAny_bind (m := checkCount "sorted" 1 1 _) (wpAny_pure (wpAny_bind (collect_set (A := X.A.in1) (I.ok.hd hc) ⟨o, ho, hex.1, hd⟩ hf hb hw.1 hw.2 fun s1 vs k1 hz g1 o1 p1 => ?_)))
  obtain ⟨js, j1, j2⟩ := keysAre_perm p1.symm (keysAre_of g)
  have j1 := j1.trans pm
  have jl : vs.length = ks.length := by rw [j2.length, j1.length_eq]
  have zl : vs.length ≤ sizeLine := by
    rw [jl, ← hn]
    exact fits_of_scanBound hb
  refine wpAny_bind (wpAny_newList ?_ zl)
  have hoL : (s1.heap.push (seqObj "list" vs.toArray 0)).get? s1.heap.objs.size = some (seqObj "list" vs.toArray 0) := Heap.get?_push_size _ rfl
  have hall : AllAlike (js.map keyD) := fun d hd d' hd' => by
    have h1 := allAlike_of hal
    exact h1 d ((j1.map keyD).mem_iff.mp hd) d' ((j1.map keyD).mem_iff.mp hd')
  have each : ∀ {vs : List Value} {js : List Key}, KeysAre vs js → EachIs (fun v k => keyIs k v = true) vs js := fun {vs js} h => by
    induction h with
    | nil => exact .nil
    | cons h t ih => exact .cons h ih
  have back : ∀ {vs : List Value} {js : List Key}, EachIs (fun v k => keyIs k v = true) vs js → KeysAre vs js := fun {vs js} h => by
    induction h with
    | nil => exact .nil
    | cons h t ih => exact .cons h ih
  have e1 := each j2
  refine wpAny_bind (wpAny_holding (list_sort_data (enc := keyD) (R := fun v k => keyIs k v = true) hoL e1 (e1.mono fun v k h => ?_) hall (.inr fun d hd => ?_) (by rw [← j2.length]; exact zl) (fun k hk => ?_) fun out z1 z2 => ?_))
  · rcases keyIs_shape h with ⟨i, t, rfl, rfl⟩ | ⟨z, t, rfl, rfl⟩
    · exact ⟨[], .int _ _, List.not_mem_nil⟩
    · exact ⟨[], .str _ _, List.not_mem_nil⟩
  · obtain ⟨k, _, rfl⟩ := List.mem_map.mp hd
    cases k with
    | inl i => exact ⟨(fun z => nomatch z), fun _ z => nomatch z⟩
    | inr i => exact ⟨(fun z => nomatch z), fun _ z => nomatch z⟩
  · have : (keyD k).depth = 0 := by cases k <;> rfl
    rw [this]
    show X.A.units + 1 + 1 + 0 < cLine
    omega
  · obtain ⟨c, hc2⟩ := sortedHeap_at (vs := vs) (out := out.toArray) hoL
    have k3 := back z2
    have hs : (js.mergeSort (dataLe false keyD)).map keyD = sortD leD (ks.map keyD) := by
      have m1 : (js.mergeSort (dataLe false keyD)).map keyD = (js.map keyD).mergeSort leD := List.map_mergeSort (fun a _ b _ => rfl)
      rw [m1, sortD_merge leD_total]
      refine sortD_perm (j1.map keyD) fun a ha b hb h1 h2 => ?_
      obtain ⟨k, _, rfl⟩ := List.mem_map.mp ha
      obtain ⟨k', _, rfl⟩ := List.mem_map.mp hb
      exact leD_anti (hall _ ha _ hb) h1 h2
    have old : ∀ b u, s.heap.get? b = some u → (sortedHeap (s1.heap.push (seqObj "list" vs.toArray 0)) s1.heap.objs.size vs out.toArray).get? b = some u := fun b u e => by
      have q1 := k1 b u e
      have hlt := Heap.lt_size q1
      rw [sortedHeap_old (Nat.ne_of_lt hlt) (by rw [size_push']; exact Nat.lt_succ_of_lt hlt)]
      exact Heap.get?_push_of_some _ q1
    have hlen : ((js.mergeSort (dataLe false keyD)).map kV).length ≤ sizeLine := by
      rw [List.length_map, List.length_mergeSort, ← j2.length]
      exact zl
    have hn2 : H s1.heap.objs.size = none := I.hok.fresh hz
    refine wpAny_pure ⟨_, rfl, .ref s1.heap.objs.size, upd H s1.heap.objs.size (.lst ((js.mergeSort (dataLe false keyD)).map kV)), ?_, rfl, q _ _ hs hn2⟩
    have J : Inv X pins σ (upd H s1.heap.objs.size (.lst ((js.mergeSort (dataLe false keyD)).map kV))) { s with heap := sortedHeap (s1.heap.push (seqObj "list" vs.toArray 0)) s1.heap.objs.size vs out.toArray, gens := s1.gens, drawn := s1.drawn, toks := s1.toks } :=
      I.call (ch := []) (Un.laid old hz hn2) (I.hok.laid old hz ⟨hlen, out, c, keys_vals k3, hc2⟩) (by rw [g1]; exact I.bare) (fun _ z => nomatch z)
    have eo : s1.os = s.os := o1
    rw [← eo] at J
    exact J
end
end Dv
/-! text DX4 -/
set_option Elab.async false
set_option linter.all false
set_option maxRecDepth 100000
set_option maxHeartbeats 4000000
namespace Dv
open PySem PySem.Spec L2

/-! ### sorted(set(e)), len(set(e)) -/
section
variable {X : Cx} {bo : Option Addr} {H0 : Hp} {cs : Cls'} {W : WX}
/-- from an operand to the set -/
theorem set_opr {F H : Hp} {b : Bx} {v : V} {d : P} {xs : List P} (s : Same F H) (q : BoxRep bo F H b) (r : RpR bo F H v d) (hx : itemsD d = some xs) (hs : ∀ z, d ≠ .str z) (hk : xs.all isKey0 = true) : ∃ (a : Addr) (ks : List Key), v = .ref a ∧ xs = ks.map keyD ∧ (SqL X.K H a (ks.map kV) ∨ SqT X.K H a (ks.map kV)) := by
  obtain ⟨ks, rfl⟩ := keys_of hk
  cases d with
  | list ds =>
    have hx : some ds = some (ks.map keyD) := hx
    cases hx
    obtain ⟨a, vs, rfl, _, ha, ra⟩ := r
    have := rpA_keys ra
    subst this
    exact ⟨a, ks, rfl, rfl, .inl (SqL.of ha)⟩
  | tuple ds =>
    have hx : some ds = some (ks.map keyD) := hx
    cases hx
    obtain ⟨a, vs, rfl, ha, ra⟩ := r.tup
    have := rpA_keys ra
    subst this
    exact ⟨a, ks, rfl, rfl, .inr (SqT.of (s _ _ ha))⟩
  | str z => exact absurd rfl (hs z)
  | _ => cases hx
theorem sortset_inv {ds : List P} {z : P} (h : fSortset ds = some z) : ∃ d xs, ds = [d] ∧ itemsD d = some xs ∧ (∀ z, d ≠ .str z) ∧ xs.all isKey0 = true ∧ allAlike xs = true ∧ xs.length ≤ 4000 ∧ z = .list (sortD leD (dedD [] xs)) := by
  have go : ∀ {xs : List P}, sortsetD xs = some z → xs.all isKey0 = true ∧ allAlike xs = true ∧ xs.length ≤ 4000 ∧ z = .list (sortD leD (dedD [] xs)) := fun {xs} h => by
    unfold sortsetD at h
    split at h
    · rename_i c
      cases h
      rw [Bool.and_eq_true, Bool.and_eq_true] at c
      exact ⟨c.1.1, c.1.2, Nat.le_of_ble_eq_true c.2, rfl⟩
    · cases h
  unfold fSortset at h
  split at h
  · rename_i xs
    obtain ⟨h1, h2, h3, h4⟩ := go h
    exact ⟨_, xs, rfl, rfl, (fun _ z => nomatch z), h1, h2, h3, h4⟩
  · rename_i xs
    obtain ⟨h1, h2, h3, h4⟩ := go h
    exact ⟨_, xs, rfl, rfl, (fun _ z => nomatch z), h1, h2, h3, h4⟩
  · cases h
theorem lenset_inv {ds : List P} {z : P} (h : fLenset ds = some z) : ∃ d xs, ds = [d] ∧ itemsD d = some xs ∧ (∀ z, d ≠ .str z) ∧ xs.all isKey0 = true ∧ xs.length ≤ 4000 ∧ z = .int (dedD [] xs).length := by
  have go : ∀ {xs : List P}, lensetD xs = some z → xs.all isKey0 = true ∧ xs.length ≤ 4000 ∧ z = .int (dedD [] xs).length := fun {xs} h => by
    unfold lensetD at h
    split at h
    · rename_i c
      cases h
      rw [Bool.and_eq_true] at c
      exact ⟨c.1, Nat.le_of_ble_eq_true c.2, rfl⟩
    · cases h
  unfold fLenset at h
  split at h
  · rename_i xs
    obtain ⟨h1, h3, h4⟩ := go h
    exact ⟨_, xs, rfl, rfl, (fun _ z => nomatch z), h1, h3, h4⟩
  · rename_i xs
    obtain ⟨h1, h3, h4⟩ := go h
    exact ⟨_, xs, rfl, rfl, (fun _ z => nomatch z), h1, h3, h4⟩
  · cases h
theorem kdd_sub : ∀ (ks acc : List Key), ∀ k ∈ kdd acc ks, k ∈ acc ∨ k ∈ ks
  | [], acc, k, h => .inl h
  | x :: ks, acc, k, h => by
    rcases kdd_sub ks (kput acc x) k h with h | h
    · unfold kput at h
      split at h
      · exact .inl h
      · rcases List.mem_append.mp h with h | h
        · exact .inl h
        · rw [List.mem_singleton.mp h]
          exact .inr List.mem_cons_self
    · exact .inr (List.mem_cons_of_mem _ h)
/-- a new object of ours that the data do not see -/
theorem ext_new {F H : Hp} {p : Addr} {o : HO} (s : Same F H) (hp : H p = none) : Ext none F H F (upd H p o) :=
  ⟨Same.refl _, fun c u hc => by rw [upd_ne (ne_of_none (s _ _ hc) hp)]; exact s _ _ hc, fun c u _ hc => by rw [upd_ne (ne_of_none hc hp)]; exact hc, fun c u h1 h2 => by rw [h1] at h2; cases h2⟩
theorem snd_sortset {ov fr : Bool} {a : Expr} {p p2 pos pos2 : Pos} {gs : Env → Bx → R P} (hc : X.calm = true) (hu : X.A.units + 70 < cLine) (hg : Gl X "sorted") (hm : X.mg "sorted" = none) (hg2 : Gl X "set") (hm2 : X.mg "set" = none) (ha : PA X [a] (liftA bo H0 cs W .r gs)) (hst : notStar a = true) :
    Snd X bo H0 cs W ov fr (.Call (.Name "sorted" p) [.Call (.Name "set" p2) [a] [] pos2] [] pos) fun e b => (gs e b).bind fun ds b1 => R.ofO (fSortset (argsOf ds)) b1 :=
  Snd.of_f (PE.imp (pe_callB (cr_sortW hc hu) hg hm PyProof.Rows.boot_sorted (pa_cons (pe_callTy (cr_setK hc) hg2 hm2 PyProof.Rows.boot_set ha (by decide) (by decide) (starEach_of hst) (by rfl)) pa_nil (by rfl)) (by decide) (by decide) (by rfl) (by rfl)) fun σ H Q ⟨e, b, F, pr, h⟩ => ⟨e, b, F, pr, fin_bindA hRFf pr h fun ds b1 vs F1 H1 p1 x1 r1 h1 => by
    cases q : fSortset (argsOf ds) with
    | none =>
      rw [q] at h1
      exact h1.elim
    | some z =>
      rw [q] at h1
      obtain ⟨d, xs, e1, e2, e3, e4, e5, e6, rfl⟩ := sortset_inv q
      rw [e1] at r1
      obtain ⟨v, rfl, rv⟩ := pa1 r1
      obtain ⟨al, ks, rfl, rfl, sq⟩ := set_opr (X := X) p1.sub p1.box rv e2 e3 e4
      rw [List.length_map] at e6
      refine ⟨al, ks, rfl, sq, by have : scanBound = 4096 := rfl; omega, fun t ht => ⟨t, kdd [] ks, rfl, upd_same, ?_, fun js u hj hu' => ?_⟩⟩
      · unfold allAlike at e5 ⊢
        rw [List.all_eq_true] at e5 ⊢
        have sub : ∀ d ∈ (kdd [] ks).map keyD, d ∈ ks.map keyD := fun d hd => by
          obtain ⟨k, hk, rfl⟩ := List.mem_map.mp hd
          rcases kdd_sub ks [] k hk with z | z
          · cases z
          · exact List.mem_map.mpr ⟨k, z, rfl⟩
        intro d hd
        have := e5 d (sub d hd)
        rw [List.all_eq_true] at this ⊢
        exact fun d' hd' => this d' (sub d' hd')
      · have x2 := ext_new (o := SetO' X.w t (kdd [] ks)) p1.sub ht
        have z2 : BoxRep bo F1 (upd H1 t (SetO' X.w t (kdd [] ks))) b1 := x2.box p1.box
        have rr : RpA F1 (js.map kV) (sortD leD (dedD [] (ks.map keyD))) := by
          have e7 : dedD [] (ks.map keyD) = (kdd [] ks).map keyD := dedD_keys ks []
          rw [e7, ← hj]
          exact keys_rpA js
        obtain ⟨m1, m2⟩ := made_lst x2.sub z2 hu' rr
        have x3 : Ext bo F1 H1 F1 (upd (upd H1 t (SetO' X.w t (kdd [] ks))) u (.lst (js.map kV))) := x2.of_none.trans m1.of_none (m1.box z2)
        refine h1 _ F1 _ x3 (m1.box z2) ?_
        obtain ⟨c, ws, k1, k2, k3, k4, k5, k6⟩ := m2
        refine ⟨c, ws, k1, k2, ?_, k4, k5, k6⟩
        by_cases w : c = t
        · rw [w, upd_same] at k3
          cases k3
        · rw [upd_ne w] at k3
          exact k3⟩) rfl
theorem snd_lenset {ov fr : Bool} {a : Expr} {p p2 pos pos2 : Pos} {gs : Env → Bx → R P} (hc : X.calm = true) (hg : Gl X "len") (hm : X.mg "len" = none) (hg2 : Gl X "set") (hm2 : X.mg "set" = none) (ha : PA X [a] (liftA bo H0 cs W .r gs)) (hst : notStar a = true) :
    Snd X bo H0 cs W ov fr (.Call (.Name "len" p) [.Call (.Name "set" p2) [a] [] pos2] [] pos) fun e b => (gs e b).bind fun ds b1 => R.ofO (fLenset (argsOf ds)) b1 :=
  Snd.of_f (PE.imp (pe_callB cr_lenW hg hm PySem.boot_len (pa_cons (pe_callTy (cr_setK hc) hg2 hm2 PyProof.Rows.boot_set ha (by decide) (by decide) (starEach_of hst) (by rfl)) pa_nil (by rfl)) (by decide) (by decide) (by rfl) (by rfl)) fun σ H Q ⟨e, b, F, pr, h⟩ => ⟨e, b, F, pr, fin_bindA hRFf pr h fun ds b1 vs F1 H1 p1 x1 r1 h1 => by
    cases q : fLenset (argsOf ds) with
    | none =>
      rw [q] at h1
      exact h1.elim
    | some z =>
      rw [q] at h1
      obtain ⟨d, xs, e1, e2, e3, e4, e6, rfl⟩ := lenset_inv q
      rw [e1] at r1
      obtain ⟨v, rfl, rv⟩ := pa1 r1
      obtain ⟨al, ks, rfl, rfl, sq⟩ := set_opr (X := X) p1.sub p1.box rv e2 e3 e4
      rw [List.length_map] at e6
      refine ⟨al, ks, rfl, sq, by have : scanBound = 4096 := rfl; omega, fun t ht => ⟨t, kdd [] ks, rfl, upd_same, ?_⟩⟩
      have x2 := ext_new (o := SetO' X.w t (kdd [] ks)) p1.sub ht
      have z2 : BoxRep bo F1 (upd H1 t (SetO' X.w t (kdd [] ks))) b1 := x2.box p1.box
      have e7 : dedD [] (ks.map keyD) = (kdd [] ks).map keyD := dedD_keys ks []
      rw [e7, List.length_map] at h1
      exact h1 _ F1 _ x2.of_none z2 (Flt.int _).fr⟩) rfl
end
end Dv
/-! text DX5 -/
set_option Elab.async false
set_option linter.all false
set_option maxRecDepth 100000
set_option maxHeartbeats 4000000
namespace Dv
open PySem PySem.Spec PyProof.Rows L2 PySem.W
/-! ### sorted(d), d a dict by ints or texts -/
theorem keysAre_at : ∀ {l : List Value} {ks : List Key}, l.length = ks.length → (∀ (i : Nat) (v : Value) (k : Key), l[i]? = some v → ks[i]? = some k → keyIs k v = true) → KeysAre l ks
  | [], [], _, _ => .nil
  | v :: l, k :: ks, hl, h => .cons (h 0 v k rfl rfl) (keysAre_at (by simpa using hl) fun i u j h1 h2 => h (i + 1) u j (by simpa using h1) (by simpa using h2))
  | [], _ :: _, hl, _ => by simp at hl
  | _ :: _, [], hl, _ => by simp at hl
theorem paired_get {α β : Type} {R : α → β → Prop} : ∀ {l : List α} {m : List β}, Paired R l m → ∀ {i : Nat} {a : α}, l[i]? = some a → ∃ b, m[i]? = some b ∧ R a b
  | _, _, .nil, i, a, h => by simp at h
  | _, _, .cons r t, 0, a, h => by
    simp at h
    subst h
    exact ⟨_, rfl, r⟩
  | _, _, .cons r t, i + 1, a, h => by
    obtain ⟨b, h1, h2⟩ := paired_get t (i := i) (by simpa using h)
    exact ⟨b, by simpa using h1, h2⟩
section
variable {X : Cx}
def rSortDct (X : Cx) : List V → Hp → VK → Prop := fun vs H Q => ∃ (a : Addr) (kvs : List (Key × V)), vs = [.ref a] ∧ Rd H a (.dK kvs) ∧ allAlike (kvs.map fun e => keyD e.1) = true ∧
  ∀ (js : List Key) (p : Addr), js.map keyD = sortD leD (kvs.map fun e => keyD e.1) → H p = none → Q (.ref p) (upd H p (.lst (js.map kV)))
theorem cr_sortDct (hc : X.calm = true) (hu : X.A.units + 70 < cLine) : CallR X (.builtin "sorted") (rSortDct X) := by
  intro pins s σ H vs us Q I r h
  obtain ⟨a, kvs, rfl, ha, hal, q⟩ := h
  rw [Vals.ref1 r]
  obtain ⟨hz, hS, ws, kv, hD⟩ := dk_rd I.hok ha
  obtain ⟨es, ep, hraw, hsz, hkey⟩ := Heap.DictOf.raw hD
  have hlen : ws.length = kvs.length := (Paired.length kv).symm
  refine Calls.call_function_entry kind_sorted plain_sorted entry_sorted (args_sorted1 _) ?_
  unfold Builtin.«sorted»
  refine wpAny_bind (m := checkCount "sorted" 1 1 _) (wpAny_pure (wpAny_bind (kdu_collect (A := X.A.in1) (KdlSrc.rawDict hS) (I.ok.hd hc) hraw (by rw [hsz, hlen]; exact hz) fun h1 tk1 acc k1 hit => ?_)))
  have j2 : KeysAre acc.toList (kvs.map (·.1)) := by
    refine keysAre_at (by rw [Array.length_toList, hit.1, List.length_map, hsz, hlen]) fun i v k e1 e2 => ?_
    obtain ⟨hi, hv⟩ := hit.2 i v (by rw [← Array.getElem?_toList]; exact e1)
    rw [List.getElem?_map] at e2
    cases q1 : kvs[i]? with
    | none => rw [q1] at e2; cases e2
    | some e =>
      rw [q1] at e2
      cases e2
      obtain ⟨w, q2, q3⟩ := paired_get kv q1
      have := (hkey i hi w.1 w.2 q2).1
      rw [hv, ← mixKind_is X.prog X.w]
      show (mixKind X.prog X.w).is e.1 _ = true
      rw [q3.1]
      exact this
  have zl : acc.toList.length ≤ sizeLine := by
    rw [Array.length_toList, hit.1, hsz, hlen]
    exact hz
  refine wpAny_bind (wpAny_newList ?_ zl)
  have hoL : (h1.push (seqObj "list" acc.toList.toArray 0)).get? h1.objs.size = some (seqObj "list" acc.toList.toArray 0) := Heap.get?_push_size _ rfl
  have mm : (kvs.map (·.1)).map keyD = kvs.map fun e => keyD e.1 := by rw [List.map_map]; rfl
  have hall : AllAlike ((kvs.map (·.1)).map keyD) := fun d hd d' hd' => by
    have h1 := allAlike_of hal
    rw [mm] at hd hd'
    exact h1 d hd d' hd'
  have each : ∀ {vs : List Value} {js : List Key}, KeysAre vs js → EachIs (fun v k => keyIs k v = true) vs js := fun {vs js} h => by
    induction h with
    | nil => exact .nil
    | cons h t ih => exact .cons h ih
  have back : ∀ {vs : List Value} {js : List Key}, EachIs (fun v k => keyIs k v = true) vs js → KeysAre vs js := fun {vs js} h => by
    induction h with
    | nil => exact .nil
    | cons h t ih => exact .cons h ih
  have e1 := each j2
  refine wpAny_bind (wpAny_holding (list_sort_data (enc := keyD) (R := fun v k => keyIs k v = true) hoL e1 (e1.mono fun v k h => ?_) hall (.inr fun d hd => ?_) (by rw [← j2.length]; exact zl) (fun k hk => ?_) fun out z1 z2 => ?_))
  · rcases keyIs_shape h with ⟨i, t, rfl, rfl⟩ | ⟨z, t, rfl, rfl⟩
    · exact ⟨[], .int _ _, List.not_mem_nil⟩
    · exact ⟨[], .str _ _, List.not_mem_nil⟩
  · obtain ⟨k, _, rfl⟩ := List.mem_map.mp hd
    cases k with
    | inl i => exact ⟨(fun z => nomatch z), fun _ z => nomatch z⟩
    | inr i => exact ⟨(fun z => nomatch z), fun _ z => nomatch z⟩
  · have : (keyD k).depth = 0 := by cases k <;> rfl
    rw [this]
    show X.A.units + 1 + 1 + 0 < cLine
    omega
  · obtain ⟨c, hc2⟩ := sortedHeap_at (vs := acc.toList) (out := out.toArray) hoL
    have k3 := back z2
    have hs : ((kvs.map (·.1)).mergeSort (dataLe false keyD)).map keyD = sortD leD (kvs.map fun e => keyD e.1) := by
      have m1 : ((kvs.map (·.1)).mergeSort (dataLe false keyD)).map keyD = ((kvs.map (·.1)).map keyD).mergeSort leD := List.map_mergeSort (fun a _ b _ => rfl)
      rw [m1, sortD_merge leD_total, mm]
    have old : ∀ b u, s.heap.get? b = some u → (sortedHeap (h1.push (seqObj "list" acc.toList.toArray 0)) h1.objs.size acc.toList out.toArray).get? b = some u := fun b u e => by
      have q1 := k1 b u e
      have hlt := Heap.lt_size q1
      rw [sortedHeap_old (Nat.ne_of_lt hlt) (by rw [size_push']; exact Nat.lt_succ_of_lt hlt)]
      exact Heap.get?_push_of_some _ q1
    have hln : (((kvs.map (·.1)).mergeSort (dataLe false keyD)).map kV).length ≤ sizeLine := by
      rw [List.length_map, List.length_mergeSort, ← j2.length]
      exact zl
    have hp0 : s.heap.get? h1.objs.size = none := by
      cases e : s.heap.get? h1.objs.size with
      | none => rfl
      | some o => exact absurd (Heap.lt_size (k1 _ _ e)) (Nat.lt_irrefl _)
    have hn2 : H h1.objs.size = none := I.hok.gone hp0
    refine wpAny_pure ⟨_, rfl, .ref h1.objs.size, upd H h1.objs.size (.lst (((kvs.map (·.1)).mergeSort (dataLe false keyD)).map kV)), ?_, rfl, q _ _ hs hn2⟩
    have J : Inv X pins σ (upd H h1.objs.size (.lst (((kvs.map (·.1)).mergeSort (dataLe false keyD)).map kV))) { s with heap := sortedHeap (h1.push (seqObj "list" acc.toList.toArray 0)) h1.objs.size acc.toList out.toArray, toks := tk1 } :=
      I.call (ch := []) (Un.laidN old hp0 hn2) (I.hok.laidN old hn2 ⟨hln, out, c, keys_vals k3, hc2⟩) I.bare (fun _ z => nomatch z)
    exact J
end
section
variable {X : Cx} {bo : Option Addr}
theorem rpK_keys {F : Hp} : ∀ {kvs : List (Key × V)} {ds : List (P × P)}, RpK F kvs ds → ds.map (·.1) = kvs.map fun e => keyD e.1
  | _, _, .nil => rfl
  | _, _, .cons r t => by rw [List.map_cons, List.map_cons, rpK_keys t]
theorem cb_sorted (hc : X.calm = true) (hu : X.A.units + 70 < cLine) : CallR X (.builtin "sorted") (rAD bo fSorted) := by
  intro pins s σ H vs us Q I r h
  obtain ⟨F, b, ds, z, sF, q, rp, e, k⟩ := h
  unfold fSorted at e
  split at e
  · rename_i xs
    exact cb_sortedL hu pins s σ H vs us Q I r ⟨F, b, [.list xs], z, sF, q, rp, e, k⟩
  · rename_i ds
    unfold fSortedD at e
    split at e
    · rename_i hcnd
      cases e
      rw [Bool.and_eq_true, Bool.and_eq_true, Bool.not_eq_true'] at hcnd
      obtain ⟨⟨h1, h2⟩, h3⟩ := hcnd
      obtain ⟨v, rfl, rv⟩ := pa1 rp
      obtain ⟨a, o, rfl, n, ha, ra⟩ := rv
      have key : ∀ (kvs : List (Key × V)) (es : List (P × P)), RpK F kvs es → dcut ds = es → Rd H a (.dK kvs) → wpAny (model X.prog X.w) X.A (call (.builtin "sorted") us) (EP X pins σ Q) X.xe s := fun kvs es re he hr => by
        have hk : (dcut ds).map (·.1) = kvs.map fun e => keyD e.1 := by rw [he]; exact rpK_keys re
        refine cr_sortDct hc hu pins s σ H _ us Q I r ⟨a, kvs, rfl, hr, by rw [← hk]; exact h2, fun js p hj hp => ?_⟩
        have rj : RpA F (js.map kV) (js.map keyD) := by
          clear hj
          induction js with
          | nil => exact .nil
          | cons j js ih => exact .cons rp_key ih
        obtain ⟨m1, m2⟩ := made_lst sF q hp rj
        rw [hj, ← hk] at m2
        exact k _ _ _ m1 m2
      cases ra with
      | k r1 => exact key _ _ r1 (tq_K r1).2.2 (.inl ha)
      | t r1 => cases (show true = false from h1)
      | kl r1 => exact key _ _ r1 (tq_K r1).2.2 (.inr ⟨_, ha⟩)
      | tl r1 => cases (show true = false from h1)
    · cases e
  · cases e
end
end Dv
/-! text DZ -/
set_option Elab.async false
set_option linter.all false
set_option maxRecDepth 100000
set_option maxHeartbeats 4000000
namespace Dv
open PySem PySem.Spec L2

/-! ### a list comprehension of two clauses -/
section
variable {bo : Option Addr} {F1 H1 F2 Hd F5 H5 : Hp} {D : Addr} {acc : List V} {b5 : Bx}
/-- the list that is made, taken out of the heap behind a step -/
theorem take_D (hDn : Hd D = none) (nD : some D ≠ bo) (FD : F2 D = none) (x : Ext bo F2 (upd Hd D (.lst acc)) F5 H5) (z : BoxRep bo F5 H5 b5) :
    H5 D = some (.lst acc) ∧ F5 D = none ∧ Ext bo F2 Hd F5 (rem H5 D) ∧ BoxRep bo F5 (rem H5 D) b5 ∧ ∀ o, upd H5 D o = upd (rem H5 D) D o := by
  have hD5 : H5 D = some (.lst acc) := x.keep D _ nD upd_same
  have FD5 : F5 D = none := x.un FD upd_same
  have xr := x.rem FD5
  rw [rem_upd hDn] at xr
  refine ⟨hD5, FD5, xr, fun β hb => ?_, fun o => ?_⟩
  · obtain ⟨q1, q2⟩ := z β hb
    refine ⟨q1, ?_⟩
    rw [rem_ne (fun w => nD (by rw [← w]; exact hb.symm))]
    exact q2
  · funext a
    by_cases w : a = D
    · rw [w, upd_same, upd_same]
    · rw [upd_ne w, upd_ne w, rem_ne w]
end
/-- targets are values -/
theorem set_o {e : Env} {i j : Nat} {d x : P} (h : (e.set i (.v d))[j]? = some (Sl.o x)) : i ≠ j ∧ e[j]? = some (Sl.o x) := by
  by_cases w : i = j
  · subst w
    by_cases hl : i < e.length
    · rw [List.getElem?_set_self hl] at h
      cases h
    · rw [List.getElem?_eq_none (by rw [List.length_set]; omega)] at h
      cases h
  · rw [List.getElem?_set_ne w] at h
    exact ⟨w, h⟩
theorem asgn_o : ∀ {tg : Tg} {d : P} {e e' : Env}, asgn tg d e = some e' → ∀ (j : Nat) (x : P), e'[j]? = some (Sl.o x) → j ∉ tgIx tg ∧ e[j]? = some (Sl.o x)
  | .nm i, d, e, e', h, j, x, hj => by
    have h : some (e.set i (.v d)) = some e' := h
    cases h
    obtain ⟨n, m⟩ := set_o hj
    exact ⟨fun z => n (List.mem_singleton.mp z).symm, m⟩
  | .tp t, d, e, e', h, j, x, hj => by
    cases d with
    | tuple xs => exact asgn_o (tg := t) (d := .list xs) h j x hj
    | list xs => exact asgn_o (tg := t) (d := .list xs) h j x hj
    | _ => cases h
  | .nil, d, e, e', h, j, x, hj => by
    cases d with
    | list xs =>
      cases xs with
      | nil =>
        cases h
        exact ⟨(fun z => nomatch z), hj⟩
      | cons y ys => cases h
    | _ => cases h
  | .cons a b, d, e, e', h, j, x, hj => by
    cases d with
    | list xs =>
      cases xs with
      | nil => cases h
      | cons y ys =>
        have h : (match asgn a y e with | some e1 => asgn b (.list ys) e1 | none => none) = some e' := h
        split at h
        · rename_i e1 h1
          obtain ⟨n1, m1⟩ := asgn_o (tg := b) h j x hj
          obtain ⟨n2, m2⟩ := asgn_o (tg := a) h1 j x m1
          exact ⟨fun z => (List.mem_append.mp z).elim n2 n1, m2⟩
        · cases h
    | _ => cases h
theorem wipe_o {e : Env} : ∀ {vs : List Nat} (j : Nat) (x : P), (wipe e vs)[j]? = some (Sl.o x) → j ∉ vs ∧ e[j]? = some (Sl.o x)
  | [], j, x, h => ⟨(fun z => nomatch z), h⟩
  | v :: vs, j, x, h => by
    have h : ((wipe e vs).set v .no)[j]? = some (Sl.o x) := h
    by_cases w : v = j
    · subst w
      by_cases hl : v < (wipe e vs).length
      · rw [List.getElem?_set_self hl] at h
        cases h
      · rw [List.getElem?_eq_none (by rw [List.length_set]; omega)] at h
        cases h
    · rw [List.getElem?_set_ne w] at h
      obtain ⟨n, m⟩ := wipe_o (vs := vs) j x h
      exact ⟨fun z => (List.mem_cons.mp z).elim (fun q => w q.symm) n, m⟩
theorem Pre.out_D {bo : Option Addr} {H0 F H : Hp} {σ : L2.St} {e : Env} {b : Bx} {D : Addr} (p : Pre bo H0 σ H e b F) (FD : F D = none) (z : BoxRep bo F (rem H D) b) (h0 : H0 D = none) (own : ∀ (j : Nat) (x : P), e[j]? = some (Sl.o x) → σ[j]? ≠ some (some (V.ref D))) : Pre bo H0 σ (rem H D) e b F := by
  have pe := p.env
  refine ⟨fun a o ha => ?_, ⟨pe.len, fun j s hj => ?_, pe.ap⟩, z, p.bs, fun a ha => ?_⟩
  · rw [rem_ne (fun w => by rw [w, FD] at ha; cases ha)]
    exact p.sub a o ha
  · have w := pe.sl j s hj
    cases s with
    | no => trivial
    | v d => exact w
    | o d =>
      obtain ⟨c, w1, w2⟩ := w
      have hc : c ≠ D := fun q => by
        subst q
        refine own j d hj ?_
        cases qq : σ[j]? with
        | none => rw [qq] at w1; cases w1
        | some u => rw [qq] at w1; exact congrArg some w1
      refine ⟨c, w1, ?_⟩
      cases d with
      | list ds =>
        obtain ⟨n, h0', f, vs, hh, r⟩ := w2
        exact ⟨n, h0', f, vs, by rw [rem_ne hc]; exact hh, r⟩
      | dict ds =>
        obtain ⟨n, h0', f, vs, hh, r⟩ := w2
        exact ⟨n, h0', f, vs, by rw [rem_ne hc]; exact hh, r⟩
      | _ => exact w2.elim
  · rw [rem_ne (fun w => by rw [w] at ha; exact ha h0)]
    exact p.al a ha
section
variable {X : Cx} {bo : Option Addr} {H0 : Hp} {cs : Cls'} {W : WX}
/-- one turn of the inner walk -/
abbrev lcT1 (own2 : List Nat) (tg2 : Tg) (gifs2 gelt : Env → Bx → R P) (e : Env) : P → Bx → R (List P) := fun z b => match asgn tg2 z (wipe e own2) with
  | none => .no
  | some e'' => (gifs2 e'' b).bind fun t b2 => match truD t with
    | some true => (gelt e'' b2).bind fun y b3 => .ok [y] b3
    | some false => .ok [] b2
    | none => .no
abbrev lcT2 (own own2 : List Nat) (tg : Tg) (gifs git2 : Env → Bx → R P) (tg2 : Tg) (gifs2 gelt : Env → Bx → R P) (e : Env) : P → Bx → R (List P) := fun x b => R.noex (match asgn tg x (wipe e own) with
  | none => .no
  | some e' => (gifs e' b).bind fun t b2 => match truD t with
    | some true => (git2 e' b2).bind fun d2 b3 => match itemsD d2 with
      | none => .no
      | some zs => lcL (lcT1 own2 tg2 gifs2 gelt e') zs b3
    | some false => .ok [] b2
    | none => .no)
abbrev fin2 (ad : List P) : List P → Bx → R P := fun ys b => if (ad ++ ys).length ≤ line then .ok (.list (ad ++ ys)) b else .no
abbrev gLc2 (own own2 : List Nat) (tg : Tg) (git gifs git2 : Env → Bx → R P) (tg2 : Tg) (gifs2 gelt : Env → Bx → R P) : Env → Bx → R P := fun e b => (git e b).bind fun d b1 => match itemsD d with
  | none => .no
  | some xs => (lcL (lcT2 own own2 tg gifs git2 tg2 gifs2 gelt e) xs b1).bind fun ys b2 => if ys.length ≤ line then .ok (.list ys) b2 else .no
theorem fin2_app (ad ys : List P) (r : R (List P)) : (r.bind fun zs b2 => R.ok (ys ++ zs) b2).bind (fin2 ad) = r.bind (fin2 (ad ++ ys)) := by
  cases r with
  | ok a b =>
    show fin2 ad (ys ++ a) b = fin2 (ad ++ ys) a b
    unfold fin2
    rw [← List.append_assoc]
  | ex c d b => rfl
  | no => rfl
theorem fin2_le {σ : L2.St} {F H : Hp} {Q : VK} {ad : List P} {r : R (List P)} (h : fin bo cs W (lF bo) σ F H (r.bind (fin2 ad)) Q) (hx : ∀ c d b, r ≠ .ex c d b) : ad.length ≤ line := by
  cases r with
  | ok a b =>
    have h : fin bo cs W (lF bo) σ F H (if (ad ++ a).length ≤ line then .ok (.list (ad ++ a)) b else .no) Q := h
    split at h
    · rename_i q
      rw [List.length_append] at q
      omega
    · exact h.elim
  | ex c d b => exact absurd rfl (hx c d b)
  | no => exact h.elim
theorem noex_ne {α : Type} {r : R α} : ∀ c d b, R.noex r ≠ .ex c d b := fun c d b z => by
  cases r <;> cases z
theorem lcL_ne {T : P → Bx → R (List P)} (hT : ∀ x b c d b', T x b ≠ .ex c d b') : ∀ (xs : List P) (b : Bx) c d b', lcL T xs b ≠ .ex c d b'
  | [], b, c, d, b' => fun z => nomatch z
  | x :: xs, b, c, d, b' => fun z => by
    have z : ((T x b).bind fun ys b1 => (lcL T xs b1).bind fun zs b2 => R.ok (ys ++ zs) b2) = .ex c d b' := z
    cases q : T x b with
    | ex c d b => exact hT _ _ _ _ _ q
    | no =>
      rw [q] at z
      cases z
    | ok ys b1 =>
      rw [q] at z
      have z : ((lcL T xs b1).bind fun zs b2 => R.ok (ys ++ zs) b2) = .ex c d b' := z
      cases q2 : lcL T xs b1 with
      | ex c d b => exact lcL_ne hT _ _ _ _ _ q2
      | no =>
        rw [q2] at z
        cases z
      | ok a b2 =>
        rw [q2] at z
        cases z
theorem lc2_imp {vs vs1 : List Nat} {tgD tgD2 : Tg} {git gifs git2 gifs2 gelt : Env → Bx → R P} (h0 : bo ≠ none → 0 ∉ vs) (h01 : bo ≠ none → 0 ∉ vs1) (hsub : ∀ i, i ∈ vs1 → i ∈ vs) (hix : ∀ i, i ∈ tgIx tgD → i ∈ vs) (hix2 : ∀ i, i ∈ tgIx tgD2 → i ∈ vs1) (σ : L2.St) (H : Hp) (Q : VK)
    (h : lift bo H0 cs W (lF bo) (gLc2 vs vs1 tgD git gifs git2 tgD2 gifs2 gelt) σ H Q) :
    tLc2 (liftI bo H0 cs W false git) (liftG bo H0 tgD) (liftT bo H0 cs W0 (gT gifs)) (liftI bo H0 cs W0 true git2) (liftG bo H0 tgD2) (liftT bo H0 cs W0 (gT gifs2)) (lift bo H0 cs W0 (lM bo .n) gelt) vs vs1 σ H Q := by
  obtain ⟨e, b, F, p, h⟩ := h
  refine ⟨e, b, F, p, ?_⟩
  dsimp only [gLc2] at h
  cases q : git e b with
  | no =>
    rw [q] at h
    exact h
  | ex c d b1 =>
    rw [q] at h
    exact h
  | ok d b1 =>
    rw [q] at h
    generalize hT : lcT2 vs vs1 tgD gifs git2 tgD2 gifs2 gelt e = T at h
    have hne : ∀ x b c d b', T x b ≠ .ex c d b' := fun x b c d b' => by rw [← hT]; exact noex_ne c d b'
    have h : fin bo cs W (lF bo) σ F H (match itemsD d with
      | none => .no
      | some xs => (lcL T xs b1).bind fun ys b2 => if ys.length ≤ line then .ok (.list ys) b2 else .no) Q := h
    dsimp only
    cases qi : itemsD d with
    | none =>
      rw [qi] at h
      exact h
    | some xs =>
      rw [qi] at h
      dsimp only at h ⊢
      intro J F1 H1 x z _ wk D hD
      have p1 : Pre bo H0 σ H1 e b1 F1 := p.step x z
      have h1 := fin_step (Rl := lF bo) (fun F' H' v d => hRFf H H1 F' H' v d) z x h
      have nD : some D ≠ bo := fun w => by
        have := (z D w.symm).2
        rw [hD] at this
        cases this
      have FD : F1 D = none := p1.sub.free hD
      -- the state ahead of turn i
      let St (i : Nat) (Hh : Hp) : Prop := ∃ (b : Bx) (F Hd : Hp) (acc : List V) (ad : List P), i ≤ xs.length ∧ Hh = upd Hd D (.lst acc) ∧ Hd D = none ∧ Pre bo H0 (L2.wipe σ vs) Hd (wipe e vs) b F ∧ Ext bo F1 H1 F Hd ∧ RpA F acc ad ∧
        fin bo cs W (lF bo) σ F1 H1 ((lcL T (xs.drop i) b).bind (fin2 ad)) Q
      refine ⟨fun i m Hh => m = xs.length - i ∧ St i Hh, ⟨xs.length, rfl, b1, F1, H1, [], [], Nat.zero_le _, rfl, hD, p1.wiped h0, Ext.refl p1.sub, .nil, ?_⟩, ?_⟩
      · rw [List.drop_zero]
        exact h1
      · rintro i m Hh ⟨rfl, b2, F2, Hd, acc, ad, hi, rfl, hDn, p2, x2, ra, h2⟩
        have FD2 : F2 D = none := p2.sub.free hDn
        obtain ⟨m1, m2⟩ := made_lst (ds := ad) p2.sub p2.box hDn ra
        have p2' : Pre bo H0 (L2.wipe σ vs) (upd Hd D (.lst acc)) (wipe e vs) b2 F2 := p2.step m1.of_none (m1.box p2.box)
        have x2' : Ext bo F1 H1 F2 (upd Hd D (.lst acc)) := x2.trans m1.of_none (m1.box p2.box)
        by_cases hlt : i < xs.length
        · obtain ⟨d0, hd0⟩ : ∃ d0, xs[i]? = some d0 := ⟨xs[i], List.getElem?_eq_getElem hlt⟩
          have hdrop : xs.drop i = d0 :: xs.drop (i + 1) := by
            rw [List.drop_eq_getElem_cons hlt]
            rw [List.getElem?_eq_getElem hlt] at hd0
            rw [Option.some.inj hd0]
          rw [hdrop] at h2
          obtain ⟨go, yl⟩ := (wk i F2 _ x2').1 d0 hd0
          refine .inr ⟨go, St (i + 1), fun H' nx => ⟨xs.length - (i + 1), by omega, rfl, nx⟩, fun y H3 hy => ?_⟩
          obtain ⟨F3, x3, r3⟩ := yl y H3 hy
          have z3 : BoxRep bo F3 H3 b2 := x3.box p2'.box
          have p3 := p2'.step x3.of_none z3
          have h2 : fin bo cs W (lF bo) σ F1 H1 (((T d0 b2).bind fun ys b1 => (lcL T (xs.drop (i + 1)) b1).bind fun zs b2 => .ok (ys ++ zs) b2).bind (fin2 ad)) Q := h2
          -- what is left behind the inner walk's items ys
          have key : ∀ (r : R (List P)), (r.bind fun ys b1 => (lcL T (xs.drop (i + 1)) b1).bind fun zs b2 => .ok (ys ++ zs) b2).bind (fin2 ad) = r.bind fun ys b1 => (lcL T (xs.drop (i + 1)) b1).bind (fin2 (ad ++ ys)) := fun r => by
            cases r with
            | ok a b => exact fin2_app ad a _
            | ex c d b => rfl
            | no => rfl
          rw [key] at h2
          cases qa : asgn tgD d0 (wipe e vs) with
          | none =>
            have : T d0 b2 = .no := by
              rw [← hT]
              dsimp only [lcT2]
              rw [qa] <;> rfl
            rw [this] at h2
            exact h2.elim
          | some e' =>
            have hT0 : T d0 b2 = R.noex ((gifs e' b2).bind fun t b2 => match truD t with
                | some true => (git2 e' b2).bind fun d2 b3 => match itemsD d2 with
                  | none => .no
                  | some zs => lcL (lcT1 vs1 tgD2 gifs2 gelt e') zs b3
                | some false => .ok [] b2
                | none => .no) := by
              rw [← hT]
              dsimp only [lcT2]
              rw [qa]
            refine ⟨wipe e vs, b2, F3, d0, e', p3, r3, qa, fun σ3 p3' l3 u3 => ⟨?_, e', b2, F3, p3', ?_⟩⟩
            · refine wipe_eq ?_ fun j hj => ?_
              · rw [l3, wipe_length]
              · rw [u3 j (fun w => hj (hix j w)), wipe_out hj]
            · dsimp only [gT]
              cases qf : gifs e' b2 with
              | no =>
                rw [qf] at hT0
                rw [hT0] at h2
                exact h2.elim
              | ex c d b =>
                rw [qf] at hT0
                rw [hT0] at h2
                exact h2.elim
              | ok t b4 =>
                rw [qf] at hT0
                have hT0 : T d0 b2 = R.noex (match truD t with
                  | some true => (git2 e' b4).bind fun d2 b3 => match itemsD d2 with
                    | none => .no
                    | some zs => lcL (lcT1 vs1 tgD2 gifs2 gelt e') zs b3
                  | some false => .ok [] b4
                  | none => .no) := hT0
                show finT bo cs W0 σ3 F3 H3 (R.ofO (truD t) b4) _
                cases qt : truD t with
                | none =>
                  rw [qt] at hT0
                  rw [hT0] at h2
                  exact h2.elim
                | some tt =>
                  intro F4 H4 x4 z4
                  have x24 : Ext bo F2 (upd Hd D (.lst acc)) F4 H4 := x3.of_none.trans x4 z4
                  cases tt with
                  | false =>
                    rw [if_neg (by decide)]
                    rw [qt] at hT0
                    have hT0 : T d0 b2 = .ok [] b4 := hT0
                    rw [hT0] at h2
                    obtain ⟨hD4, FD4, xr, zr, eo⟩ := take_D hDn nD FD2 x24 z4
                    have e2 : H4 = upd (rem H4 D) D (.lst acc) := (upd_rem hD4).symm
                    refine ⟨b4, F4, rem H4 D, acc, ad, hlt, e2, rem_same, p2.step xr zr, x2.trans xr zr, ra.mono xr.sf, ?_⟩
                    have h2 : fin bo cs W (lF bo) σ F1 H1 ((lcL T (xs.drop (i + 1)) b4).bind (fin2 (ad ++ []))) Q := h2
                    rw [List.append_nil] at h2
                    exact h2
                  | true =>
                    rw [if_pos rfl]
                    rw [qt] at hT0
                    have hT0 : T d0 b2 = R.noex ((git2 e' b4).bind fun d2 b3 => match itemsD d2 with
                      | none => .no
                      | some zs => lcL (lcT1 vs1 tgD2 gifs2 gelt e') zs b3) := hT0
                    have p4 := p3'.step x4 z4
                    refine ⟨e', b4, F4, p4, ?_⟩
                    cases qe : git2 e' b4 with
                    | no =>
                      rw [qe] at hT0
                      rw [hT0] at h2
                      exact h2.elim
                    | ex c d b =>
                      rw [qe] at hT0
                      rw [hT0] at h2
                      exact h2.elim
                    | ok d2 b5 =>
                      rw [qe] at hT0
                      dsimp only
                      have hT0 : T d0 b2 = R.noex (match itemsD d2 with
                        | none => .no
                        | some zs => lcL (lcT1 vs1 tgD2 gifs2 gelt e') zs b5) := hT0
                      cases q2 : itemsD d2 with
                      | none =>
                        rw [q2] at hT0
                        rw [hT0] at h2
                        exact h2.elim
                      | some zs =>
                        rw [q2] at hT0
                        dsimp only at hT0 ⊢
                        rw [hT0] at h2
                        intro J1 F5 H5 x5 z5 wks _
                        have wks := wks rfl
                        have p5 := p4.step x5 z5
                        have x25 : Ext bo F2 (upd Hd D (.lst acc)) F5 H5 := x24.trans x5 z5
                        obtain ⟨hD5, FD5, xr5, zr5, eo5⟩ := take_D hDn nD FD2 x25 z5
                        -- ahead of the inner turn j
                        let I1 (j : Nat) (Hh : Hp) : Prop := ∃ (b : Bx) (F Hc : Hp) (ac : List V) (ys : List P), j ≤ zs.length ∧ Hh = upd Hc D (.lst ac) ∧ Hc D = none ∧ Ext bo F5 (rem H5 D) F Hc ∧ BoxRep bo F Hc b ∧ RpA F ac (ad ++ ys) ∧
                          fin bo cs W (lF bo) σ F1 H1 ((R.noex (lcL (lcT1 vs1 tgD2 gifs2 gelt e') (zs.drop j) b)).bind fun us b1 => (lcL T (xs.drop (i + 1)) b1).bind (fin2 (ad ++ ys ++ us))) Q
                        have own : ∀ (j : Nat) (x : P), e'[j]? = some (Sl.o x) → σ3[j]? ≠ some (some (V.ref D)) := fun j x hj w => by
                          obtain ⟨n1, n2⟩ := asgn_o qa j x hj
                          obtain ⟨n3, n4⟩ := wipe_o j x n2
                          rw [u3 j n1, L2.wipe_out n3] at w
                          exact p1.al' j D x n4 w hD
                        have p5r : Pre bo H0 σ3 (rem H5 D) e' b5 F5 := p5.out_D FD5 zr5 (by
                          cases w : H0 D with
                          | none => rfl
                          | some o => exact absurd hD (p1.al D (by rw [w]; exact (fun z => nomatch z)))) own
                        refine ⟨fun j k Hh => k = zs.length - j ∧ I1 j Hh, ⟨zs.length, rfl, b5, F5, rem H5 D, acc, [], Nat.zero_le _, (upd_rem hD5).symm, rem_same, Ext.refl xr5.sub, zr5, ?_, ?_⟩, ?_⟩
                        · rw [List.append_nil]
                          exact ra.mono xr5.sf
                        · rw [List.drop_zero, List.append_nil]
                          exact h2
                        · rintro j k Hh ⟨rfl, b6, F6, Hc, ac, ys, hj, rfl, hCn, x6, z6, r6, h6⟩
                          have p6 : Pre bo H0 σ3 Hc e' b6 F6 := p5r.step x6 z6
                          have FD6 : F6 D = none := p6.sub.free hCn
                          obtain ⟨n1, n2⟩ := made_lst (ds := ad ++ ys) p6.sub p6.box hCn r6
                          have p6' : Pre bo H0 σ3 (upd Hc D (.lst ac)) e' b6 F6 := p6.step n1.of_none (n1.box p6.box)
                          by_cases hl2 : j < zs.length
                          · obtain ⟨d1, hd1⟩ : ∃ d1, zs[j]? = some d1 := ⟨zs[j], List.getElem?_eq_getElem hl2⟩
                            have hdr2 : zs.drop j = d1 :: zs.drop (j + 1) := by
                              rw [List.drop_eq_getElem_cons hl2]
                              rw [List.getElem?_eq_getElem hl2] at hd1
                              rw [Option.some.inj hd1]
                            rw [hdr2] at h6
                            obtain ⟨go2, yl2⟩ := (wks j F6 _ x6.sf p6'.sub).1 d1 hd1
                            refine .inr ⟨go2, I1 (j + 1), fun H' nx => ⟨zs.length - (j + 1), by omega, rfl, nx⟩, fun y2 H7 hy2 => ?_⟩
                            obtain ⟨F7, x7, r7⟩ := yl2 y2 H7 hy2
                            have z7 : BoxRep bo F7 H7 b6 := x7.box p6'.box
                            have p7 := (p6'.wiped h01).step x7.of_none z7
                            -- behind an inner turn
                            have back : ∀ {b8 : Bx} {F8 H8 : Hp} {ws : List V} {us : List P}, lcT1 vs1 tgD2 gifs2 gelt e' d1 b6 = .ok us b8 → Ext bo F7 H7 F8 H8 → BoxRep bo F8 H8 b8 → RpA F8 ws us → H8 D = some (.lst ac) ∧ (ad ++ ys ++ us).length ≤ line ∧ I1 (j + 1) (upd H8 D (.lst (ac ++ ws))) := fun {b8 F8 H8 ws us} ht x8 z8 r8 => by
                              have x68 : Ext bo F6 (upd Hc D (.lst ac)) F8 H8 := x7.of_none.trans x8 z8
                              obtain ⟨hD8, FD8, xr, zr, eo⟩ := take_D hCn nD FD6 x68 z8
                              have h7 : fin bo cs W (lF bo) σ F1 H1 ((R.noex ((lcT1 vs1 tgD2 gifs2 gelt e' d1 b6).bind fun vs b1 => (lcL (lcT1 vs1 tgD2 gifs2 gelt e') (zs.drop (j + 1)) b1).bind fun ws b2 => .ok (vs ++ ws) b2)).bind fun us b1 => (lcL T (xs.drop (i + 1)) b1).bind (fin2 (ad ++ ys ++ us))) Q := h6
                              rw [ht] at h7
                              have e1 : ∀ (r : R (List P)), (R.noex ((R.ok us b8).bind fun vs b1 => r.bind fun ws b2 => R.ok (vs ++ ws) b2)).bind (fun us b1 => (lcL T (xs.drop (i + 1)) b1).bind (fin2 (ad ++ ys ++ us))) = (R.noex r).bind fun ws b1 => (lcL T (xs.drop (i + 1)) b1).bind (fin2 (ad ++ (ys ++ us) ++ ws)) := fun r => by
                                cases r with
                                | ok a b =>
                                  show (lcL T (xs.drop (i + 1)) b).bind (fin2 (ad ++ ys ++ (us ++ a))) = (lcL T (xs.drop (i + 1)) b).bind (fin2 (ad ++ (ys ++ us) ++ a))
                                  simp only [List.append_assoc]
                                | ex c d b => rfl
                                | no => rfl
                              have h8 : fin bo cs W (lF bo) σ F1 H1 ((R.noex (lcL (lcT1 vs1 tgD2 gifs2 gelt e') (zs.drop (j + 1)) b8)).bind fun ws b1 => (lcL T (xs.drop (i + 1)) b1).bind (fin2 (ad ++ (ys ++ us) ++ ws))) Q := by
                                rw [← e1]
                                exact h7
                              have hlen : (ad ++ (ys ++ us)).length ≤ line := by
                                cases qr : R.noex (lcL (lcT1 vs1 tgD2 gifs2 gelt e') (zs.drop (j + 1)) b8) with
                                | no =>
                                  rw [qr] at h8
                                  exact h8.elim
                                | ex c d b => exact absurd qr (noex_ne c d b)
                                | ok a b =>
                                  rw [qr] at h8
                                  have := fin2_le h8 (lcL_ne hne _ _)
                                  rw [List.length_append] at this
                                  omega
                              refine ⟨hD8, by rw [List.append_assoc]; exact hlen, b8, F8, rem H8 D, ac ++ ws, ys ++ us, hl2, eo _, rem_same, x6.trans xr zr, zr, ?_, h8⟩
                              rw [← List.append_assoc]
                              exact (r6.mono xr.sf).append r8
                            cases qa2 : asgn tgD2 d1 (wipe e' vs1) with
                            | none =>
                              have : lcT1 vs1 tgD2 gifs2 gelt e' d1 b6 = .no := by
                                dsimp only [lcT1]
                                rw [qa2]
                              have h7 : fin bo cs W (lF bo) σ F1 H1 ((R.noex ((lcT1 vs1 tgD2 gifs2 gelt e' d1 b6).bind fun vs b1 => (lcL (lcT1 vs1 tgD2 gifs2 gelt e') (zs.drop (j + 1)) b1).bind fun ws b2 => .ok (vs ++ ws) b2)).bind fun us b1 => (lcL T (xs.drop (i + 1)) b1).bind (fin2 (ad ++ ys ++ us))) Q := h6
                              rw [this] at h7
                              exact h7.elim
                            | some e2 =>
                              have hT1 : lcT1 vs1 tgD2 gifs2 gelt e' d1 b6 = (gifs2 e2 b6).bind fun t b2 => match truD t with
                                  | some true => (gelt e2 b2).bind fun y b3 => .ok [y] b3
                                  | some false => .ok [] b2
                                  | none => .no := by
                                dsimp only [lcT1]
                                rw [qa2]
                              have h7 : fin bo cs W (lF bo) σ F1 H1 ((R.noex ((lcT1 vs1 tgD2 gifs2 gelt e' d1 b6).bind fun vs b1 => (lcL (lcT1 vs1 tgD2 gifs2 gelt e') (zs.drop (j + 1)) b1).bind fun ws b2 => .ok (vs ++ ws) b2)).bind fun us b1 => (lcL T (xs.drop (i + 1)) b1).bind (fin2 (ad ++ ys ++ us))) Q := h6
                              rw [hT1] at h7
                              refine ⟨wipe e' vs1, b6, F7, d1, e2, p7, r7, qa2, fun σ8 p8' l8 u8 => ⟨?_, e2, b6, F7, p8', ?_⟩⟩
                              · refine wipe_eq ?_ fun j hj => ?_
                                · rw [l8, wipe_length]
                                · rw [u8 j (fun w => hj (hix2 j w)), wipe_out hj]
                              · dsimp only [gT]
                                cases qg : gifs2 e2 b6 with
                                | no =>
                                  rw [qg] at h7
                                  exact h7.elim
                                | ex c d b =>
                                  rw [qg] at h7
                                  exact h7.elim
                                | ok t2 b7 =>
                                  rw [qg] at hT1 h7
                                  have hT1 : lcT1 vs1 tgD2 gifs2 gelt e' d1 b6 = (match truD t2 with
                                    | some true => (gelt e2 b7).bind fun y b3 => .ok [y] b3
                                    | some false => .ok [] b7
                                    | none => .no) := hT1
                                  have h7 : fin bo cs W (lF bo) σ F1 H1 ((R.noex ((match truD t2 with
                                    | some true => (gelt e2 b7).bind fun y b3 => .ok [y] b3
                                    | some false => .ok [] b7
                                    | none => .no).bind fun vs b1 => (lcL (lcT1 vs1 tgD2 gifs2 gelt e') (zs.drop (j + 1)) b1).bind fun ws b2 => .ok (vs ++ ws) b2)).bind fun us b1 => (lcL T (xs.drop (i + 1)) b1).bind (fin2 (ad ++ ys ++ us))) Q := h7
                                  show finT bo cs W0 σ8 F7 H7 (R.ofO (truD t2) b7) _
                                  cases qt2 : truD t2 with
                                  | none =>
                                    rw [qt2] at h7
                                    exact h7.elim
                                  | some tt2 =>
                                    rw [qt2] at hT1 h7
                                    intro F9 H9 x9 z9
                                    cases tt2 with
                                    | false =>
                                      rw [if_neg (by decide)]
                                      obtain ⟨hD9, _, w⟩ := back hT1 x9 z9 .nil
                                      rw [List.append_nil] at w
                                      have e3 : upd H9 D (.lst ac) = H9 := by
                                        funext a
                                        by_cases w : a = D
                                        · rw [w, upd_same, hD9]
                                        · rw [upd_ne w]
                                      rw [e3] at w
                                      exact w
                                    | true =>
                                      rw [if_pos rfl]
                                      refine ⟨e2, b7, F9, p8'.step x9 z9, ?_⟩
                                      have hT1 : lcT1 vs1 tgD2 gifs2 gelt e' d1 b6 = (gelt e2 b7).bind fun y b3 => .ok [y] b3 := hT1
                                      cases ql : gelt e2 b7 with
                                      | no =>
                                        have h7 : fin bo cs W (lF bo) σ F1 H1 ((R.noex (((gelt e2 b7).bind fun y b3 => R.ok [y] b3).bind fun vs b1 => (lcL (lcT1 vs1 tgD2 gifs2 gelt e') (zs.drop (j + 1)) b1).bind fun ws b2 => .ok (vs ++ ws) b2)).bind fun us b1 => (lcL T (xs.drop (i + 1)) b1).bind (fin2 (ad ++ ys ++ us))) Q := h7
                                        rw [ql] at h7
                                        exact h7.elim
                                      | ex c d b =>
                                        have h7 : fin bo cs W (lF bo) σ F1 H1 ((R.noex (((gelt e2 b7).bind fun y b3 => R.ok [y] b3).bind fun vs b1 => (lcL (lcT1 vs1 tgD2 gifs2 gelt e') (zs.drop (j + 1)) b1).bind fun ws b2 => .ok (vs ++ ws) b2)).bind fun us b1 => (lcL T (xs.drop (i + 1)) b1).bind (fin2 (ad ++ ys ++ us))) Q := h7
                                        rw [ql] at h7
                                        exact h7.elim
                                      | ok yv b8 =>
                                        rw [ql] at hT1
                                        intro wv F8 H8 x8 z8 r8
                                        obtain ⟨hD8, hln, w⟩ := back (us := [yv]) (ws := [wv]) hT1 (x9.trans x8 z8) z8 (.cons r8 .nil)
                                        refine ⟨ac, hD8, ?_, w⟩
                                        rw [r6.length, ← line_eq]
                                        rw [List.length_append] at hln
                                        simp only [List.length_cons, List.length_nil] at hln
                                        omega
                          · have hje : j = zs.length := by omega
                            subst hje
                            refine .inl ⟨(wks _ F6 _ x6.sf p6'.sub).2 rfl, ?_⟩
                            rw [List.drop_length] at h6
                            have h6 : fin bo cs W (lF bo) σ F1 H1 ((lcL T (xs.drop (i + 1)) b6).bind (fin2 (ad ++ ys ++ []))) Q := h6
                            rw [List.append_nil] at h6
                            have x26 : Ext bo F2 Hd F6 Hc := xr5.trans x6 z6
                            exact ⟨b6, F6, Hc, ac, ad ++ ys, hlt, rfl, hCn, p2.step x26 z6, x2.trans x26 z6, r6, h6⟩
        · have hie : i = xs.length := by omega
          subst hie
          refine .inl ⟨(wk _ F2 _ x2').2 rfl, ?_⟩
          rw [List.drop_length] at h2
          have h2 : fin bo cs W (lF bo) σ F1 H1 (fin2 ad [] b2) Q := h2
          unfold fin2 at h2
          rw [List.append_nil] at h2
          split at h2
          · exact h2 _ F2 _ x2' (m1.box p2.box) ⟨D, acc, rfl, nD, hD, FD2, upd_same, ra⟩
          · exact h2.elim
theorem snd_lc2 {elt tg iter tg2 iter2 : Expr} {ifs ifs2 : List Expr} {scope : Scope} {own : List (Str × Nat)} {vs1 : List Nat} {pos : Pos} {tgD tgD2 : Tg} {git gifs git2 gifs2 gelt : Env → Bx → R P} (hc : X.calm = true) (hN : X.N.Nodup) (hi : PI X tg iter (liftI bo H0 cs W false git)) (ok : BlkOk X.N X.env.scope scope own) (hv : ∀ i ∈ vs1, i ∈ own.map (·.2))
    (hg : ∀ (s : Shared) (H : Hp) (C : Addr) (cl : List (Str × Addr)) (fp : List Addr), PG (X.blk s H scope (compEnvC scope cl C X.env) fp) tg (liftG bo H0 tgD))
    (ht : ∀ (s : Shared) (H : Hp) (C : Addr) (cl : List (Str × Addr)) (fp : List Addr), PTs (X.blk s H scope (compEnvC scope cl C X.env) fp) ifs (liftT bo H0 cs W0 (gT gifs)))
    (hi2 : ∀ (s : Shared) (H : Hp) (C : Addr) (cl : List (Str × Addr)) (fp : List Addr), PI (X.blk s H scope (compEnvC scope cl C X.env) fp) tg2 iter2 (liftI bo H0 cs W0 true git2))
    (hg2 : ∀ (s : Shared) (H : Hp) (C : Addr) (cl : List (Str × Addr)) (fp : List Addr), PG (X.blk s H scope (compEnvC scope cl C X.env) fp) tg2 (liftG bo H0 tgD2))
    (ht2 : ∀ (s : Shared) (H : Hp) (C : Addr) (cl : List (Str × Addr)) (fp : List Addr), PTs (X.blk s H scope (compEnvC scope cl C X.env) fp) ifs2 (liftT bo H0 cs W0 (gT gifs2)))
    (he : ∀ (s : Shared) (H : Hp) (C : Addr) (cl : List (Str × Addr)) (fp : List Addr), PE (X.blk s H scope (compEnvC scope cl C X.env) fp) elt (lift bo H0 cs W0 (lM bo .n) gelt)) (hs : notSet iter = true) (hs2 : notSet iter2 = true)
    (h0 : bo ≠ none → 0 ∉ own.map (·.2)) (h01 : bo ≠ none → 0 ∉ vs1) (hix : ∀ i, i ∈ tgIx tgD → i ∈ own.map (·.2)) (hix2 : ∀ i, i ∈ tgIx tgD2 → i ∈ vs1) :
    PE X (.ListComp elt [⟨tg, iter, ifs, 0⟩, ⟨tg2, iter2, ifs2, 0⟩] scope pos) (lift bo H0 cs W (lF bo) (gLc2 (own.map (·.2)) vs1 tgD git gifs git2 tgD2 gifs2 gelt)) :=
  PE.imp (pe_lc2 hc hN hi ok hv hg ht hi2 hg2 ht2 he (notSet_folded hs) (fun env x => notSet_folded hs2 x)) fun σ H Q h => lc2_imp h0 h01 hv hix hix2 σ H Q h
end
end Dv
/-! text DW -/
set_option Elab.async false
set_option linter.all false
set_option maxRecDepth 100000
set_option maxHeartbeats 4000000
namespace Dv
open PySem PySem.Spec L2

/-! ### {k: v for target in iter if ..} -/
section
variable {X : Cx} {bo : Option Addr} {H0 : Hp} {cs : Cls'} {W : WX}
abbrev dcT (own : List Nat) (tg : Tg) (gifs gk gv : Env → Bx → R P) (e : Env) : P → List (P × P) → Bx → R P := fun x ds b => match asgn tg x (wipe e own) with
  | none => .no
  | some e' => (gifs e' b).bind fun t b2 => match truD t with
    | some true => (gk e' b2).bind fun kd b3 => (gv e' b3).bind fun vd b4 => R.ofO (dputD (.dict ds) kd vd) b4
    | some false => .ok (.dict ds) b2
    | none => .no
abbrev gDc (own : List Nat) (tg : Tg) (git gifs gk gv : Env → Bx → R P) : Env → Bx → R P := fun e b => (git e b).bind fun d b1 => match itemsD d with
  | none => .no
  | some xs => dcL (dcT own tg gifs gk gv e) xs [] b1
theorem dput_inv {ds : List (P × P)} {kvs : List (Key × V)} {F : Hp} {kd vd z : P} (r : RpK F kvs ds) (h : dputD (.dict ds) kd vd = some z) : keyOk false kd = true ∧ ds.length < sizeLine ∧ z = .dict (dput ds kd vd) := by
  have h : (if keyOk (dTq ds) kd && !dLk ds && Nat.ble (ds.length + 1) line then some (PyData.dict (dput ds kd vd)) else none) = some z := h
  rw [(tq_K r).1] at h
  split at h
  · rename_i hk
    cases h
    rw [Bool.and_eq_true, Bool.and_eq_true] at hk
    have hz := Nat.le_of_ble_eq_true hk.2
    rw [line_eq] at hz
    exact ⟨hk.1.1, by omega, rfl⟩
  · cases h
theorem dc_imp {vs : List Nat} {tgD : Tg} {git gifs gk gv : Env → Bx → R P} (h0 : bo ≠ none → 0 ∉ vs) (hix : ∀ i, i ∈ tgIx tgD → i ∈ vs) (σ : L2.St) (H : Hp) (Q : VK) (h : lift bo H0 cs W (lF bo) (gDc vs tgD git gifs gk gv) σ H Q) :
    tDc (liftI bo H0 cs W false git) (liftG bo H0 tgD) (liftT bo H0 cs W0 (gT gifs)) (lift bo H0 cs W0 (lM bo .n) gk) (lift bo H0 cs W0 (lM bo .n) gv) vs σ H Q := by
  obtain ⟨e, b, F, p, h⟩ := h
  refine ⟨e, b, F, p, ?_⟩
  dsimp only [gDc] at h
  cases q : git e b with
  | no =>
    rw [q] at h
    exact h
  | ex c d b1 =>
    rw [q] at h
    exact h
  | ok d b1 =>
    rw [q] at h
    have h : fin bo cs W (lF bo) σ F H (match itemsD d with
      | none => .no
      | some xs => dcL (dcT vs tgD gifs gk gv e) xs [] b1) Q := h
    dsimp only
    cases qi : itemsD d with
    | none =>
      rw [qi] at h
      exact h
    | some xs =>
      rw [qi] at h
      dsimp only at h ⊢
      intro J F1 H1 x z _ wk D hD
      have p1 : Pre bo H0 σ H1 e b1 F1 := p.step x z
      have h1 := fin_step (Rl := lF bo) (fun F' H' v d => hRFf H H1 F' H' v d) z x h
      have nD : some D ≠ bo := fun w => by
        have := (z D w.symm).2
        rw [hD] at this
        cases this
      have FD : F1 D = none := p1.sub.free hD
      refine ⟨fun i m Hh => ∃ (b : Bx) (F Hd : Hp) (acc : List (Key × V)) (ad : List (P × P)), i ≤ xs.length ∧ m = xs.length - i ∧ Hh = upd Hd D (.dK acc) ∧ Hd D = none ∧ Pre bo H0 (L2.wipe σ vs) Hd (wipe e vs) b F ∧ Ext bo F1 H1 F Hd ∧ RpK F acc ad ∧
        fin bo cs W (lF bo) σ F1 H1 (dcL (dcT vs tgD gifs gk gv e) (xs.drop i) ad b) Q, ⟨xs.length, b1, F1, H1, [], [], Nat.zero_le _, rfl, rfl, hD, p1.wiped h0, Ext.refl p1.sub, .nil, ?_⟩, ?_⟩
      · rw [List.drop_zero]
        exact h1
      · rintro i m Hh ⟨b2, F2, Hd, acc, ad, hi, rfl, rfl, hDn, p2, x2, ra, h2⟩
        have FD2 : F2 D = none := p2.sub.free hDn
        obtain ⟨m1, m2⟩ := made_dct (ds := ad) p2.sub p2.box hDn (DcO.k ra)
        have p2' : Pre bo H0 (L2.wipe σ vs) (upd Hd D (.dK acc)) (wipe e vs) b2 F2 := p2.step m1.of_none (m1.box p2.box)
        have x2' : Ext bo F1 H1 F2 (upd Hd D (.dK acc)) := x2.trans m1.of_none (m1.box p2.box)
        by_cases hlt : i < xs.length
        · obtain ⟨d0, hd0⟩ : ∃ d0, xs[i]? = some d0 := ⟨xs[i], List.getElem?_eq_getElem hlt⟩
          have hdrop : xs.drop i = d0 :: xs.drop (i + 1) := by
            rw [List.drop_eq_getElem_cons hlt]
            rw [List.getElem?_eq_getElem hlt] at hd0
            rw [Option.some.inj hd0]
          rw [hdrop] at h2
          obtain ⟨go, yl⟩ := (wk i F2 _ x2').1 d0 hd0
          refine .inr ⟨go, fun H' => ∃ (b : Bx) (F Hd : Hp) (acc : List (Key × V)) (ad : List (P × P)), i + 1 ≤ xs.length ∧ xs.length - (i + 1) = xs.length - (i + 1) ∧ H' = upd Hd D (.dK acc) ∧ Hd D = none ∧ Pre bo H0 (L2.wipe σ vs) Hd (wipe e vs) b F ∧ Ext bo F1 H1 F Hd ∧ RpK F acc ad ∧
            fin bo cs W (lF bo) σ F1 H1 (dcL (dcT vs tgD gifs gk gv e) (xs.drop (i + 1)) ad b) Q, fun H' nx => ⟨xs.length - (i + 1), by omega, nx⟩, fun y H3 hy => ?_⟩
          obtain ⟨F3, x3, r3⟩ := yl y H3 hy
          have z3 : BoxRep bo F3 H3 b2 := x3.box p2'.box
          have p3 := p2'.step x3.of_none z3
          have h2 : fin bo cs W (lF bo) σ F1 H1 (match dcT vs tgD gifs gk gv e d0 ad b2 with
            | .ok (.dict ds') b1 => dcL (dcT vs tgD gifs gk gv e) (xs.drop (i + 1)) ds' b1
            | _ => .no) Q := h2
          -- behind a turn
          have back : ∀ {b5 : Bx} {F5 H5 : Hp} {acc' : List (Key × V)} {ad' : List (P × P)}, dcT vs tgD gifs gk gv e d0 ad b2 = .ok (.dict ad') b5 → Ext bo F3 H3 F5 H5 → BoxRep bo F5 H5 b5 → RpK F5 acc' ad' → H5 D = some (.dK acc) ∧
              ∃ (b : Bx) (F Hd : Hp) (acc'' : List (Key × V)) (ad'' : List (P × P)), i + 1 ≤ xs.length ∧ xs.length - (i + 1) = xs.length - (i + 1) ∧ upd H5 D (.dK acc') = upd Hd D (.dK acc'') ∧ Hd D = none ∧ Pre bo H0 (L2.wipe σ vs) Hd (wipe e vs) b F ∧ Ext bo F1 H1 F Hd ∧ RpK F acc'' ad'' ∧
              fin bo cs W (lF bo) σ F1 H1 (dcL (dcT vs tgD gifs gk gv e) (xs.drop (i + 1)) ad'' b) Q := fun {b5 F5 H5 acc' ad'} ht x5 z5 r5 => by
            have x35 : Ext bo F2 (upd Hd D (.dK acc)) F5 H5 := x3.of_none.trans x5 z5
            have hD5 : H5 D = some (.dK acc) := x35.keep D _ nD upd_same
            have FD5 : F5 D = none := x35.un FD2 upd_same
            have xr := x35.rem FD5
            rw [rem_upd hDn] at xr
            have zr : BoxRep bo F5 (rem H5 D) b5 := fun β hb => by
              obtain ⟨q1, q2⟩ := z5 β hb
              refine ⟨q1, ?_⟩
              rw [rem_ne (fun w => nD (by rw [← w]; exact hb.symm))]
              exact q2
            refine ⟨hD5, b5, F5, rem H5 D, acc', ad', hlt, rfl, ?_, rem_same, p2.step xr zr, x2.trans xr zr, r5, ?_⟩
            · funext a
              by_cases w : a = D
              · rw [w, upd_same, upd_same]
              · rw [upd_ne w, upd_ne w, rem_ne w]
            · rw [ht] at h2
              exact h2
          cases qa : asgn tgD d0 (wipe e vs) with
          | none =>
            have : dcT vs tgD gifs gk gv e d0 ad b2 = .no := by
              dsimp only [dcT]
              rw [qa]
            rw [this] at h2
            exact h2.elim
          | some e' =>
            have hT : dcT vs tgD gifs gk gv e d0 ad b2 = (gifs e' b2).bind fun t b2 => match truD t with
                | some true => (gk e' b2).bind fun kd b3 => (gv e' b3).bind fun vd b4 => R.ofO (dputD (.dict ad) kd vd) b4
                | some false => .ok (.dict ad) b2
                | none => .no := by
              dsimp only [dcT]
              rw [qa]
            refine ⟨wipe e vs, b2, F3, d0, e', p3, r3, qa, fun σ3 p3' l3 u3 => ⟨?_, e', b2, F3, p3', ?_⟩⟩
            · refine wipe_eq ?_ fun j hj => ?_
              · rw [l3, wipe_length]
              · rw [u3 j (fun w => hj (hix j w)), wipe_out hj]
            · dsimp only [gT]
              cases qf : gifs e' b2 with
              | no =>
                rw [qf] at hT
                rw [hT] at h2
                exact h2.elim
              | ex c d b =>
                rw [qf] at hT
                rw [hT] at h2
                exact h2.elim
              | ok t b4 =>
                rw [qf] at hT
                have hT : dcT vs tgD gifs gk gv e d0 ad b2 = (match truD t with
                  | some true => (gk e' b4).bind fun kd b3 => (gv e' b3).bind fun vd b4 => R.ofO (dputD (.dict ad) kd vd) b4
                  | some false => .ok (.dict ad) b4
                  | none => .no) := hT
                show finT bo cs W0 σ3 F3 H3 (R.ofO (truD t) b4) _
                cases qt : truD t with
                | none =>
                  rw [qt] at hT
                  rw [hT] at h2
                  exact h2.elim
                | some tt =>
                  intro F4 H4 x4 z4
                  cases tt with
                  | false =>
                    rw [if_neg (by decide)]
                    rw [qt] at hT
                    have hT : dcT vs tgD gifs gk gv e d0 ad b2 = .ok (.dict ad) b4 := hT
                    obtain ⟨hD4, w⟩ := back hT x4 z4 (ra.mono (x3.sf.trans x4.sf))
                    have e2 : upd H4 D (.dK acc) = H4 := by
                      funext a
                      by_cases w : a = D
                      · rw [w, upd_same, hD4]
                      · rw [upd_ne w]
                    rw [e2] at w
                    exact w
                  | true =>
                    rw [if_pos rfl]
                    rw [qt] at hT
                    have hT : dcT vs tgD gifs gk gv e d0 ad b2 = ((gk e' b4).bind fun kd b3 => (gv e' b3).bind fun vd b4 => R.ofO (dputD (.dict ad) kd vd) b4) := hT
                    have p4 := p3'.step x4 z4
                    refine ⟨e', b4, F4, p4, ?_⟩
                    cases qe : gk e' b4 with
                    | no =>
                      rw [qe] at hT
                      rw [hT] at h2
                      exact h2.elim
                    | ex c d b =>
                      rw [qe] at hT
                      rw [hT] at h2
                      exact h2.elim
                    | ok kd b5 =>
                      rw [qe] at hT
                      have hT : dcT vs tgD gifs gk gv e d0 ad b2 = ((gv e' b5).bind fun vd b4 => R.ofO (dputD (.dict ad) kd vd) b4) := hT
                      intro w5 F5 H5 x5 z5 r5
                      have p5 := p4.step x5 z5
                      refine ⟨e', b5, F5, p5, ?_⟩
                      cases qv : gv e' b5 with
                      | no =>
                        rw [qv] at hT
                        rw [hT] at h2
                        exact h2.elim
                      | ex c d b =>
                        rw [qv] at hT
                        rw [hT] at h2
                        exact h2.elim
                      | ok vd b6 =>
                        rw [qv] at hT
                        have hT : dcT vs tgD gifs gk gv e d0 ad b2 = R.ofO (dputD (.dict ad) kd vd) b6 := hT
                        intro w6 F6 H6 x6 z6 r6
                        cases qp : dputD (.dict ad) kd vd with
                        | none =>
                          rw [qp] at hT
                          rw [hT] at h2
                          exact h2.elim
                        | some zz =>
                          rw [qp] at hT
                          obtain ⟨g1, g2, rfl⟩ := dput_inv ra qp
                          have x46 := (x4.trans x5 z5).trans x6 z6
                          obtain ⟨kk, rfl, rfl⟩ := key_K (bo := bo) (F := F5) (H := H5) (y := w5) g1 (Rp.r x5.sub z5 r5)
                          have ra6 : RpK F6 acc ad := ra.mono (x3.sf.trans x46.sf)
                          obtain ⟨hD6, w⟩ := back hT x46 z6 (rpK_put (k := kk) r6 ra6)
                          exact ⟨acc, kk, rfl, hD6, by rw [rpK_length ra]; exact g2, w⟩
        · have hie : i = xs.length := by omega
          subst hie
          refine .inl ⟨(wk _ F2 _ x2').2 rfl, ?_⟩
          rw [List.drop_length] at h2
          have h2 : fin bo cs W (lF bo) σ F1 H1 (.ok (.dict ad) b2) Q := h2
          exact h2 _ F2 _ x2' (m1.box p2.box) ⟨D, _, rfl, nD, hD, FD2, upd_same, .k ra⟩
theorem snd_dc {kx vx tg iter : Expr} {ifs : List Expr} {scope : Scope} {own : List (Str × Nat)} {pos : Pos} {tgD : Tg} {git gifs gk gv : Env → Bx → R P} (hc : X.calm = true) (hN : X.N.Nodup) (hi : PI X tg iter (liftI bo H0 cs W false git)) (ok : BlkOk X.N X.env.scope scope own)
    (hg : ∀ (s : Shared) (H : Hp) (C : Addr) (cl : List (Str × Addr)) (fp : List Addr), PG (X.blk s H scope (compEnvC scope cl C X.env) fp) tg (liftG bo H0 tgD))
    (ht : ∀ (s : Shared) (H : Hp) (C : Addr) (cl : List (Str × Addr)) (fp : List Addr), PTs (X.blk s H scope (compEnvC scope cl C X.env) fp) ifs (liftT bo H0 cs W0 (gT gifs)))
    (hk : ∀ (s : Shared) (H : Hp) (C : Addr) (cl : List (Str × Addr)) (fp : List Addr), PE (X.blk s H scope (compEnvC scope cl C X.env) fp) kx (lift bo H0 cs W0 (lM bo .n) gk))
    (hv : ∀ (s : Shared) (H : Hp) (C : Addr) (cl : List (Str × Addr)) (fp : List Addr), PE (X.blk s H scope (compEnvC scope cl C X.env) fp) vx (lift bo H0 cs W0 (lM bo .n) gv)) (hs : notSet iter = true)
    (h0 : bo ≠ none → 0 ∉ own.map (·.2)) (hix : ∀ i, i ∈ tgIx tgD → i ∈ own.map (·.2)) :
    PE X (.DictComp kx vx [⟨tg, iter, ifs, 0⟩] scope pos) (lift bo H0 cs W (lF bo) (gDc (own.map (·.2)) tgD git gifs gk gv)) :=
  PE.imp (pe_dc hc hN hi ok hg ht hk hv (notSet_folded hs)) fun σ H Q h => dc_imp h0 hix σ H Q h
/-- the same, its value swapped into a name at once -/
theorem sw_dc {kx vx : Expr} {gs : List Comprehension} {scope : Scope} {pos py : Pos} {y : Str} {l : Nat} {env : PySem.Env} (h1 : env.scope.kind = .function) (h2 : env.scope.names.lookup y = some .local) (h3 : (py.line == pos.line) = true) (h4 : (scope.names.any fun (n, k) => n == y && (k == .local || k == .cell)) = false) :
    swapsWith (.DictComp kx vx gs scope pos) (some (.Name y py)) l env = pure true := by
  have e1 : env.kindOf y = some .local := h2
  have e2 : env.blockKind = .function := by
    unfold Env.blockKind
    rw [h1]
    rfl
  unfold swapsWith
  simp only [e2, e1, h4, Expr.pos, h3]
  rfl
theorem set_dc {i : Nat} {y : Str} {py : Pos} {kx vx tg iter : Expr} {ifs : List Expr} {scope : Scope} {own : List (Str × Nat)} {pos sp : Pos} {wi : TI} {g : TG} {tt : TT} {tk tv : TE} (hc : X.calm = true) (hN : X.N.Nodup) (hy : X.N[i]? = some y) (hl : X.env.scope.names.lookup y = some .local) (sw : swapsWith (.DictComp kx vx [⟨tg, iter, ifs, 0⟩] scope pos) (some (.Name y py)) sp.line X.env = pure true)
    (hi : PI X tg iter wi) (ok : BlkOk X.N X.env.scope scope own) (hg : ∀ (s : Shared) (H : Hp) (C : Addr) (cl : List (Str × Addr)) (fp : List Addr), PG (X.blk s H scope (compEnvC scope cl C X.env) fp) tg g)
    (ht : ∀ (s : Shared) (H : Hp) (C : Addr) (cl : List (Str × Addr)) (fp : List Addr), PTs (X.blk s H scope (compEnvC scope cl C X.env) fp) ifs tt) (hk : ∀ (s : Shared) (H : Hp) (C : Addr) (cl : List (Str × Addr)) (fp : List Addr), PE (X.blk s H scope (compEnvC scope cl C X.env) fp) kx tk)
    (hv : ∀ (s : Shared) (H : Hp) (C : Addr) (cl : List (Str × Addr)) (fp : List Addr), PE (X.blk s H scope (compEnvC scope cl C X.env) fp) vx tv) (hs : ∀ x, foldedSetIterable iter X.env x = pure x) :
    PS X (.Assign [.Name y py] (.DictComp kx vx [⟨tg, iter, ifs, 0⟩] scope pos) sp) (tAsg (tDc wi g tt tk tv (own.map (·.2))) (gName i)) := ⟨fun pins s σ H D I q => by
  rw [exec_Assign_Name_used _ _ _ _ sw]
  have q : tDc wi g tt tk tv (own.map (·.2)) σ H (fun x H1 => gName i x σ H1 D.nx) := q
  refine wpAny_bind (wpAny_standAt (wpAny_bind ?_))
  show wpAny _ X.A (do let _ ← comprehension (.DictComp kx vx [⟨tg, iter, ifs, 0⟩] scope pos) scope X.env (firstIterPos [⟨tg, iter, ifs, 0⟩] pos) newDict false (eval iter X.env) (some (assign (.Name y py) X.env))) _ _ s
  refine wpAny_bind (thn (dc_core (Qf := fun _ s' => SP X pins D .next s') hc hN I hi ok hg ht hk hv hs q fun L C s' m H' I' q1 hn f => ?_) fun _ s' z => wpAny_pure (wpAny_pure z))
  obtain ⟨f0, f1, f2, f3, f4, f5⟩ := f
  show wpAny _ _ (assign (.Name y py) X.env (.ref L)) _ _ _
  refine wpAny_assign_Name (store_ok2 (v := V.ref L) I' hN hy (.inl hl) rfl (fun s2 I2 ⟨a, sb, ha⟩ => ⟨m, hn.sameBut sb ?_, fun h3 sb3 => ⟨_, H', I2.turned (t' := s2.toks) (fun b o hb e => (sb3.2 b hb).trans e) f0 f1 f3 f4 f5, q1⟩⟩) (.inr hl))
  rcases ha with z | z
  · rw [z]
    exact f1
  · exact fun e => f4 y a z e.symm⟩
end
end Dv
/-! text DG -/
set_option Elab.async false
set_option linter.all false
set_option maxRecDepth 100000
set_option maxHeartbeats 4000000
namespace Dv
open PySem PySem.Spec L2
section
variable {bo : Option Addr} {cs : Cls'} {φ : Phi}
theorem frs_of {c : Ct} {f : Nat} {q : Str × Bool × Bool × Nat} (h : c.fns[f]? = some q) : c.frs f = q.2.2.1 := by
  unfold Ct.frs
  rw [h]
theorem FnAt.cast {X : Cx} {cs : Cls'} {x : Str} {b b' fr fr' : Bool} {n n' : Nat} {g : List P → Bx → R P} (h : FnAt X cs x b fr n g) (e1 : b = b') (e2 : fr = fr') (e3 : n = n') : FnAt X cs x b' fr' n' g := by
  subst e1 e2 e3
  exact h
theorem so_call {f : Nat} {as : IE} (ss : SO bo cs φ as) : SO bo cs φ (.call f as) := SO.val (fun {c X H0 W e} k h _ => by
  match e, h with
  | .Call (.Name x p) es [] pos, h =>
    have h : (oB c.fns[f]? false (fun q => decide (q.1 = x) && !q.2.1 && decide (es.length = q.2.2.2)) && glOk c x && allPlain es && okA as c true es) = true := h
    rw [Bool.and_eq_true, Bool.and_eq_true, Bool.and_eq_true] at h
    obtain ⟨⟨⟨h1, h2⟩, h3⟩, h4⟩ := h
    obtain ⟨q, hq, h1⟩ := oB_some h1
    simp only [Bool.and_eq_true, Bool.not_eq_true', decide_eq_true_eq] at h1
    obtain ⟨⟨e1, e2⟩, e3⟩ := h1
    obtain ⟨g1, g2⟩ := gl_of k h2
    obtain ⟨p1, p2⟩ := ss.b (H0 := H0) (W := W) k h4
    have F := (k.fns f q hq).cast e2 rfl e3.symm
    rw [e1] at F
    have hf : frE c (.call f as) = q.2.2.1 := frs_of hq
    rw [hf]
    refine ⟨?_, fun _ _ _ z => nomatch z⟩
    cases es with
    | nil =>
      have : as = .nil := by
        cases as <;> first
          | rfl
          | (exact absurd h4 (by decide))
          | cases h4
      subst this
      exact snd_call0 k.tk F g1 g2
    | cons e es => exact snd_call k.tk F g1 p1 g2 h3 rfl (p2 h3)) rfl (fun _ _ _ => rfl) (fun _ _ => rfl)
theorem so_callK {f : Nat} {pm : List Nat} {as ks : IE} (ss : SO bo cs φ as) (sk : SO bo cs φ ks) : SO bo cs φ (.callK f pm as ks) := SO.val (fun {c X H0 W e} k h _ => by
  match e, h with
  | .Call (.Name x p) es kws pos, h =>
    have h : (oB c.fns[f]? false (fun q => decide (q.1 = x) && decide (pm.length = q.2.2.2) && c.kws.any fun k => decide (k.1 = f) && decide (k.2.1 = es.length) && decide (kws.map Keyword.arg = k.2.2.1.map some) && decide (k.2.2.2 = pm) && pm.all (· < es.length + k.2.2.1.length)) && glOk c x && allPlain es && okA as c true es && okK ks c kws) = true := h
    rw [Bool.and_eq_true, Bool.and_eq_true, Bool.and_eq_true, Bool.and_eq_true] at h
    obtain ⟨⟨⟨⟨h1, h2⟩, h3⟩, h4⟩, h5⟩ := h
    obtain ⟨q, hq, h1⟩ := oB_some h1
    rw [Bool.and_eq_true, Bool.and_eq_true, List.any_eq_true, decide_eq_true_eq, decide_eq_true_eq] at h1
    obtain ⟨⟨e1, e2⟩, kw, hkw, h1⟩ := h1
    rw [Bool.and_eq_true, Bool.and_eq_true, Bool.and_eq_true, Bool.and_eq_true, decide_eq_true_eq, decide_eq_true_eq, decide_eq_true_eq, decide_eq_true_eq] at h1
    obtain ⟨⟨⟨⟨e3, e4⟩, e5⟩, e6⟩, e7⟩ := h1
    obtain ⟨g1, g2⟩ := gl_of k h2
    obtain ⟨p1, p2⟩ := ss.b (H0 := H0) (W := W) k h4
    obtain ⟨p3, p4⟩ := sk.k (H0 := H0) (W := W) k h5
    have F := k.kws kw hkw q (by rw [e3]; exact hq)
    rw [e1, e3, e6] at F
    have hf : frE c (.callK f pm as ks) = q.2.2.1 := frs_of hq
    rw [hf]
    have hlk : kws.length = kw.2.2.1.length := by
      have := congrArg List.length e5
      rw [List.length_map, List.length_map] at this
      exact this
    refine ⟨snd_callSK k.tk F g1 p1 p3 e5 g2 h3 e4.symm (fun z => ?_) (fun en b d b' w => by rw [e4]; exact p2 h3 en b d b' w) (fun en b d b' w => by rw [← hlk]; exact p4 en b d b' w) e2 (by rw [e4]; exact e7), fun _ _ _ z => nomatch z⟩
    subst z
    have : as = .nil := by
      cases as <;> first
        | rfl
        | (exact absurd h4 (by decide))
        | cases h4
    subst this
    rfl) rfl (fun _ _ _ => rfl) (fun _ _ => rfl)
theorem so_callB {f : Nat} {as : IE} (ss : SO bo cs φ as) : SO bo cs φ (.callB f as) := SO.val (fun {c X H0 W e} k h _ => by
  match e, h with
  | .Call (.Name x p) (.Name y py :: es) [] pos, h =>
    have h : (oB c.fns[f]? false (fun q => decide (q.1 = x) && q.2.1 && decide (es.length + 1 = q.2.2.2)) && glOk c x && c.bx && nmOk c 0 y && allPlain es && okA as c true es) = true := h
    rw [Bool.and_eq_true, Bool.and_eq_true, Bool.and_eq_true, Bool.and_eq_true, Bool.and_eq_true] at h
    obtain ⟨⟨⟨⟨⟨h1, h2⟩, h3⟩, h4⟩, h5⟩, h6⟩ := h
    obtain ⟨q, hq, h1⟩ := oB_some h1
    simp only [Bool.and_eq_true, decide_eq_true_eq] at h1
    obtain ⟨⟨e1, e2⟩, e3⟩ := h1
    obtain ⟨g1, g2⟩ := gl_of k h2
    obtain ⟨p1, p2⟩ := ss.b (H0 := H0) (W := W) k h6
    have n := nm_of k h4
    have F := (k.fns f q hq).cast e2 rfl e3.symm
    rw [e1] at F
    have hf : frE c (.callB f as) = q.2.2.1 := frs_of hq
    rw [hf]
    exact ⟨snd_callB k.tk F g1 p1 g2 (k.bx.mp h3) n.hN n.hv n.hd n.hcd h5 rfl (p2 h5), fun _ _ _ z => nomatch z⟩) rfl (fun _ _ _ => rfl) (fun _ _ => rfl)
theorem so_callX {f : Nat} {a as : IE} (sa : SO bo cs φ a) (ss : SO bo cs φ as) : SO bo cs φ (.callX f a as) := SO.val (fun {c X H0 W e} k h _ => by
  match e, h with
  | .Call (.Name x p) (y :: es) [] pos, h =>
    have h : (oB c.fns[f]? false (fun q => decide (q.1 = x) && q.2.1 && !q.2.2.1 && decide (es.length + 1 = q.2.2.2)) && glOk c x && okE a c y && !iterOnly a && frE c a && notStar y && allPlain es && okA as c true es) = true := h
    rw [Bool.and_eq_true, Bool.and_eq_true, Bool.and_eq_true, Bool.and_eq_true, Bool.and_eq_true, Bool.and_eq_true, Bool.and_eq_true, Bool.not_eq_true'] at h
    obtain ⟨⟨⟨⟨⟨⟨⟨h1, h2⟩, h3⟩, h4⟩, h5⟩, h6⟩, h7⟩, h8⟩ := h
    obtain ⟨q, hq, h1⟩ := oB_some h1
    simp only [Bool.and_eq_true, decide_eq_true_eq, Bool.not_eq_true'] at h1
    obtain ⟨⟨⟨e1, e2⟩, e3⟩, e4⟩ := h1
    obtain ⟨g1, g2⟩ := gl_of k h2
    obtain ⟨p1, p2⟩ := ss.b (H0 := H0) (W := W) k h8
    have F := (k.fns f q hq).cast e2 e3 e4.symm
    rw [e1] at F
    have ha := (sa.a (H0 := H0) (W := W) k h3 h4).1
    rw [h5] at ha
    exact ⟨snd_callX k.tk F g1 ha p1 g2 h6 h7 rfl (p2 h7), fun _ _ _ z => nomatch z⟩) rfl (fun _ _ _ => rfl) (fun _ _ => rfl)
theorem bt_int : bootBuiltins "int" = some (.type "int") := by decide +kernel
theorem bt_bool : bootBuiltins "bool" = some (.type "bool") := by decide +kernel
theorem bt_tuple : bootBuiltins "tuple" = some (.type "tuple") := by decide +kernel
theorem bt_list : bootBuiltins "list" = some (.type "list") := by decide +kernel
theorem bt_str : bootBuiltins "str" = some (.type "str") := by decide +kernel
theorem bt_len : bootBuiltins "len" = some (.builtin "len") := by decide +kernel
theorem bt_abs : bootBuiltins "abs" = some (.builtin "abs") := by decide +kernel
theorem bt_sum : bootBuiltins "sum" = some (.builtin "sum") := by decide +kernel
theorem bt_max : bootBuiltins "max" = some (.builtin "max") := by decide +kernel
theorem bt_min : bootBuiltins "min" = some (.builtin "min") := by decide +kernel
theorem bt_all : bootBuiltins "all" = some (.builtin "all") := by decide +kernel
theorem bt_sorted : bootBuiltins "sorted" = some (.builtin "sorted") := by decide +kernel
theorem bt_any : bootBuiltins "any" = some (.builtin "any") := by decide +kernel
theorem so_bi {p : Bi} {as : IE} (ss : SO bo cs φ as) : SO bo cs φ (.bi p as) := SO.val (fun {c X H0 W e} k h _ => by
  have h : okBi p c e (fun es => okA as c false es) = true := h
  unfold okBi at h
  cases qs : setName p with
  | some n =>
    rw [qs] at h
    obtain ⟨q, h1, h⟩ := oB_some (show okBiS n c e (fun es => okA as c false es) = true from h)
    obtain ⟨w, h2, h⟩ := oB_some h
    obtain ⟨r, h3, h⟩ := oB_some h
    obtain ⟨a, h4, h⟩ := oB_some h
    simp only [Bool.and_eq_true, decide_eq_true_eq] at h
    obtain ⟨⟨⟨⟨⟨g1, g2⟩, g3⟩, g4⟩, g5⟩, g6⟩ := h
    obtain ⟨p1, pos1, rfl⟩ := vFn_of h1
    have h2 := v1_of h2
    obtain ⟨p2, pos2, rfl⟩ := vFn_of h3
    have h4 := v1_of h4
    rw [h2]
    rw [h4] at g6 ⊢
    rw [g1] at g2 ⊢
    rw [g3] at g4 ⊢
    obtain ⟨a1, a2⟩ := bl_of k g2
    obtain ⟨b1, b2⟩ := bl_of k g4
    obtain ⟨pa, _⟩ := ss.b (H0 := H0) (W := W) k g6
    refine ⟨?_, fun _ _ _ z => nomatch z⟩
    cases p with
    | sortset => cases qs; exact snd_sortset k.calm k.hu a1 a2 b1 b2 pa g5
    | lenset => cases qs; exact snd_lenset k.calm a1 a2 b1 b2 pa g5
    | _ => cases qs
  | none =>
    rw [qs] at h
    obtain ⟨q, z1, hh⟩ := oB_some (show okBiN p c e (fun es => okA as c false es) = true from h)
    clear h
    obtain ⟨pp, pos, rfl⟩ := vFn_of z1
    obtain ⟨x, es⟩ := q
    rw [Bool.and_eq_true, Bool.and_eq_true, Bool.and_eq_true, Bool.and_eq_true, decide_eq_true_eq] at hh
    obtain ⟨⟨⟨⟨h1, h2⟩, h3⟩, h4⟩, h5⟩ := hh
    dsimp only at h1 h2 h3 h4 h5 ⊢
    cases es with
    | nil => cases h3
    | cons e es =>
      obtain ⟨g1, g2⟩ := bl_of k h2
      obtain ⟨p1, p2⟩ := ss.b (H0 := H0) (W := W) k h5
      refine ⟨?_, fun _ _ _ z => nomatch z⟩
      cases p with
      | len => cases h1; exact snd_biB cb_len g1 g2 bt_len p1 (by decide) (by decide) h4
      | abs => cases h1; exact snd_biB cb_abs g1 g2 bt_abs p1 (by decide) (by decide) h4
      | int_ => cases h1; exact snd_biT cb_int g1 g2 bt_int p1 (by decide) (by decide) h4
      | bool_ => cases h1; exact snd_biT cb_bool g1 g2 bt_bool p1 (by decide) (by decide) h4
      | tuple_ => cases h1; exact snd_biT cb_tuple g1 g2 bt_tuple p1 (by decide) (by decide) h4
      | list_ => cases h1; exact snd_biT cb_list g1 g2 bt_list p1 (by decide) (by decide) h4
      | sum => cases h1; exact snd_biB (cb_sum k.calm) g1 g2 bt_sum p1 (by decide) (by decide) h4
      | max => cases h1; exact snd_biB (cb_max k.calm k.hu) g1 g2 bt_max p1 (by decide) (by decide) h4
      | min => cases h1; exact snd_biB (cb_min k.calm k.hu) g1 g2 bt_min p1 (by decide) (by decide) h4
      | all => cases h1; exact snd_biB (cb_all k.calm) g1 g2 bt_all p1 (by decide) (by decide) h4
      | any => cases h1; exact snd_biB (cb_any k.calm) g1 g2 bt_any p1 (by decide) (by decide) h4
      | sorted => cases h1; exact snd_biB (cb_sorted k.calm k.hu) g1 g2 bt_sorted p1 (by decide) (by decide) h4
      | sortset => cases qs
      | lenset => cases qs
      | _ => cases h1) rfl (fun _ _ _ => rfl) (fun _ _ => rfl)
theorem tyN_of {t : Ty} {z : Str} (h : tyN t = some z) : ∃ n, tyName t = some n ∧ z = Str.ofString n ∧ bootBuiltins (Str.ofString n) = some (.type n) ∧ Str.ofString n ≠ "__name__" ∧ (Str.ofString n == ("__debug__" : Str)) = false := by
  cases t <;> first
    | (cases h; done)
    | (cases h; exact ⟨"int", rfl, rfl, bt_int, by decide, by decide⟩)
    | (cases h; exact ⟨"str", rfl, rfl, bt_str, by decide, by decide⟩)
    | (cases h; exact ⟨"bool", rfl, rfl, bt_bool, by decide, by decide⟩)
    | (cases h; exact ⟨"tuple", rfl, rfl, bt_tuple, by decide, by decide⟩)
    | (cases h; exact ⟨"list", rfl, rfl, bt_list, by decide, by decide⟩)
theorem or_seq1 : ∀ d b1 b2, isiD .list_ d = some b1 → isiD .tuple_ d = some b2 → isiD .seq_ d = some (b1 || b2) := fun d b1 b2 h1 h2 => by cases d <;> cases h1 <;> cases h2 <;> rfl
theorem or_seq2 : ∀ d b1 b2, isiD .tuple_ d = some b1 → isiD .list_ d = some b2 → isiD .seq_ d = some (b1 || b2) := fun d b1 b2 h1 h2 => by cases d <;> cases h1 <;> cases h2 <;> rfl
theorem or_numstr : ∀ d b1 b2, isiD .bool_ d = some b1 → isiD .str_ d = some b2 → isiD .numstr d = some (b1 || b2) := fun d b1 b2 h1 h2 => by cases d <;> cases h1 <;> cases h2 <;> rfl
def isi2 (t : Ty) (z u : Str) : Bool := match t with
  | .seq_ => (decide (z = "list") && decide (u = "tuple")) || (decide (z = "tuple") && decide (u = "list"))
  | .numstr => decide (z = "bool") && decide (u = "str")
  | _ => false
theorem so_isi {t : Ty} {a : IE} (sa : SO bo cs φ a) : SO bo cs φ (.isi t a) := SO.val (fun {c X H0 W e} k h _ => by
  match e, h with
  | .Call (.Name x _) [y, .Name z _] [] _, h =>
    have h : (decide (x = "isinstance") && blOk c x && decide (tyN t = some z) && blOk c z && okE a c y && !iterOnly a && notStar y) = true := h
    simp only [Bool.and_eq_true, Bool.not_eq_true', decide_eq_true_eq] at h
    obtain ⟨⟨⟨⟨⟨⟨h1, h2⟩, h3⟩, h4⟩, h5⟩, h6⟩, h7⟩ := h
    obtain ⟨n, t1, rfl, t3, t4, t5⟩ := tyN_of h3
    obtain ⟨g1, g2⟩ := bl_of k h2
    obtain ⟨g3, g4⟩ := bl_of k h4
    subst h1
    exact ⟨isi_one t1 g1 g2 g3 g4 t3 t4 t5 (sa.a k h5 h6).1 h7, fun _ _ _ z => nomatch z⟩
  | .Call (.Name x _) [y, .Tuple [.Name z _, .Name u _] _ _] [] _, h =>
    have h : (decide (x = "isinstance") && blOk c x && isi2 t z u && blOk c z && blOk c u && okE a c y && !iterOnly a && notStar y) = true := by
      cases t <;> exact h
    simp only [Bool.and_eq_true, Bool.not_eq_true', decide_eq_true_eq] at h
    obtain ⟨⟨⟨⟨⟨⟨⟨h1, h2⟩, h3⟩, h4⟩, h5⟩, h6⟩, h7⟩, h8⟩ := h
    obtain ⟨g1, g2⟩ := bl_of k h2
    obtain ⟨g3, g4⟩ := bl_of k h4
    obtain ⟨g5, g6⟩ := bl_of k h5
    subst h1
    refine ⟨?_, fun _ _ _ z => nomatch z⟩
    cases t with
    | seq_ =>
      simp only [isi2, Bool.or_eq_true, Bool.and_eq_true, decide_eq_true_eq] at h3
      rcases h3 with ⟨e1, e2⟩ | ⟨e1, e2⟩
      · subst e1 e2
        exact isi_two (t1 := .list_) (t2 := .tuple_) (n1 := "list") (n2 := "tuple") rfl rfl or_seq1 g1 g2 g3 g4 bt_list (by decide) (by decide) g5 g6 bt_tuple (by decide) (by decide) (sa.a k h6 h7).1 h8
      · subst e1 e2
        exact isi_two (t1 := .tuple_) (t2 := .list_) (n1 := "tuple") (n2 := "list") rfl rfl or_seq2 g1 g2 g3 g4 bt_tuple (by decide) (by decide) g5 g6 bt_list (by decide) (by decide) (sa.a k h6 h7).1 h8
    | numstr =>
      simp only [isi2, Bool.and_eq_true, decide_eq_true_eq] at h3
      obtain ⟨e1, e2⟩ := h3
      subst e1 e2
      exact isi_two (t1 := .bool_) (t2 := .str_) (n1 := "bool") (n2 := "str") rfl rfl or_numstr g1 g2 g3 g4 bt_bool (by decide) (by decide) g5 g6 bt_str (by decide) (by decide) (sa.a k h6 h7).1 h8
    | _ => cases h3) rfl (fun _ _ _ => rfl) (fun _ _ => rfl)
end
end Dv
/-! text DH -/
set_option Elab.async false
set_option linter.all false
set_option maxRecDepth 100000
set_option maxHeartbeats 4000000
namespace Dv
open PySem PySem.Spec L2
section
variable {bo : Option Addr} {cs : Cls'} {φ : Phi}
theorem base_of {x : Expr} {n : Str} {env : PySem.Env} (h : plainBase x = true) : attributeBase x n env (eval x env) = eval x env := by
  cases x with
  | Name a b => rfl
  | Subscript a b c => rfl
  | Call f as ks p =>
    cases as with
    | nil => cases h
    | cons a as => cases f <;> rfl
  | _ => cases h
theorem few_of {es : List Expr} {pos : Pos} {env : PySem.Env} (h : allPlain es = true) (hl : es.length < 30) : ((backTo pos (starEach es env)).all (fun x => !x.1) && (backToKw pos (keywordEach [] env)).all (fun x => x.1.isSome) && decide (es.length + ([] : List Keyword).length + (if ([] : List Keyword).isEmpty then 0 else 1) < 30)) = true := by
  have h1 : (backTo pos (starEach es env)).any (·.1) = false := noStars h
  have h2 : (backTo pos (starEach es env)).all (fun x => !x.1) = true := by
    rw [List.all_eq_true]
    intro x hx
    rw [List.any_eq_false] at h1
    have := h1 x hx
    cases q : x.1 with
    | false => rfl
    | true => exact absurd q this
  rw [h2, Bool.true_and]
  show (true && decide (es.length + 0 + 0 < 30)) = true
  rw [Bool.true_and]
  exact decide_eq_true (by omega)
theorem so_mth {m : Mt} {a as : IE} (sa : SO bo cs φ a) (ss : SO bo cs φ as) : SO bo cs φ (.mth m a as) := SO.val (fun {c X H0 W e} k h _ => by
  obtain ⟨q, hq, h⟩ := oB_some (show oB (vMt e) false _ = true from h)
  obtain ⟨q1, q2, q3, q4, q5⟩ := q
  have e1 := vMt_of hq
  simp only [Bool.and_eq_true, Bool.not_eq_true', decide_eq_true_eq] at h
  obtain ⟨⟨⟨⟨⟨⟨⟨h1, h2⟩, h3⟩, h4⟩, h5⟩, h6⟩, h7⟩, h8⟩ := h
  obtain ⟨p1, p2⟩ := ss.b (H0 := H0) (W := W) k h4
  dsimp only at e1
  subst e1
  cases m with
  | strip =>
    have h1 := (Option.some.inj h1).symm
    subst h1
    match q4, h6, h5, p1 with
    | [y], h6, h5, p1 =>
      have h5 : (notStar y && true) = true := h5
      rw [Bool.and_true] at h5
      exact ⟨snd_strip (sa.a k h2 h3).1 p1 h5 h7 (base_of h8), fun _ _ _ z => nomatch z⟩
  | get1 =>
    have h1 := (Option.some.inj h1).symm
    subst h1
    match q4, h6, h5, p1 with
    | y :: ys, h6, h5, p1 =>
      have h5' := h5
      unfold allPlain at h5'
      rw [List.all_cons, Bool.and_eq_true] at h5'
      exact ⟨snd_get (.inl rfl) k.hu1 (sa.a k h2 h3).1 p1 h5'.1 h5'.2 h7 (base_of h8) (few_of h5 (by rw [h6]; decide)), fun _ _ _ z => nomatch z⟩
  | get2 =>
    have h1 := (Option.some.inj h1).symm
    subst h1
    match q4, h6, h5, p1 with
    | y :: ys, h6, h5, p1 =>
      have h5' := h5
      unfold allPlain at h5'
      rw [List.all_cons, Bool.and_eq_true] at h5'
      exact ⟨snd_get (.inr rfl) k.hu1 (sa.a k h2 h3).1 p1 h5'.1 h5'.2 h7 (base_of h8) (few_of h5 (by rw [h6]; decide)), fun _ _ _ z => nomatch z⟩
  | _ => cases h1) rfl (fun _ _ _ => rfl) (fun _ _ => rfl)
theorem so_dnew {t : Bool} : SO bo cs φ (.dnew t) := SO.val (fun {c X H0 W e} k h _ => by
  obtain ⟨q, hq, h⟩ := oB_some (show oB (vNew e) false _ = true from h)
  rw [vNew_of hq]
  exact ⟨snd_dnew, fun _ _ _ z => nomatch z⟩) rfl (fun _ _ _ => rfl) (fun _ _ => rfl)
theorem gr_congr {g : Env → Bx → R P} {tp : Bool} {n : Nat} (hn : n ≤ 2) (hl : ∀ en b d b', g en b = .ok d b' → (argsOf d).length = n) (en : Env) (b : Bx) :
    ((g en b).bind fun ds b1 => gRg tp (rng12 (argsOf ds)) b1) = (g en b).bind fun ds b1 => gRg tp (rngD (argsOf ds)) b1 := by
  have h := hl en b
  cases q : g en b with
  | no => rfl
  | ex c d b => rfl
  | ok d b1 =>
    rw [bindR_ok, bindR_ok, rng12_eq (by rw [h d b1 q]; exact hn)]
theorem so_trg {as : IE} (ss : SO bo cs φ as) : SO bo cs φ (.trg as) := SO.val (fun {c X H0 W e} k h _ => by
  obtain ⟨q, hq, h⟩ := oB_some (show oB (vFn e) false _ = true from h)
  obtain ⟨w, hw, h⟩ := oB_some h
  obtain ⟨r, hr, h⟩ := oB_some h
  obtain ⟨q1, q2⟩ := q
  obtain ⟨r1, r2⟩ := r
  obtain ⟨p1, p2, e1⟩ := vFn_of hq
  obtain ⟨p3, p4, e3⟩ := vFn_of hr
  have e2 := v1_of hw
  simp only [Bool.and_eq_true, Bool.not_eq_true', decide_eq_true_eq] at h
  obtain ⟨⟨⟨⟨⟨⟨⟨h1, h2⟩, h3⟩, h4⟩, h5⟩, h6⟩, h7⟩, h8⟩ := h
  obtain ⟨g1, g2⟩ := bl_of k h2
  obtain ⟨g3, g4⟩ := bl_of k h4
  obtain ⟨s1, s2⟩ := ss.b (H0 := H0) (W := W) k h7
  have s2 := s2 h5
  dsimp only at e1 e2 e3
  subst h1 h3 e2 e3 e1
  refine ⟨?_, fun _ _ _ z => nomatch z⟩
  cases r2 with
  | nil => cases h6
  | cons z zs =>
    unfold allPlain at h5
    rw [List.all_cons, Bool.and_eq_true] at h5
    exact Snd.congr (snd_rgAt k.calm g1 g2 g3 g4 s1 h5.1 h5.2) (gr_congr h8 s2)) rfl (fun _ _ _ => rfl) (fun _ _ => rfl)
theorem so_lrg {as : IE} (ss : SO bo cs φ as) : SO bo cs φ (.lrg as) := SO.val (fun {c X H0 W e} k h _ => by
  obtain ⟨q, hq, h⟩ := oB_some (show oB (vFn e) false _ = true from h)
  obtain ⟨w, hw, h⟩ := oB_some h
  obtain ⟨r, hr, h⟩ := oB_some h
  obtain ⟨q1, q2⟩ := q
  obtain ⟨r1, r2⟩ := r
  obtain ⟨p1, p2, e1⟩ := vFn_of hq
  obtain ⟨p3, p4, e3⟩ := vFn_of hr
  have e2 := v1_of hw
  simp only [Bool.and_eq_true, Bool.not_eq_true', decide_eq_true_eq] at h
  obtain ⟨⟨⟨⟨⟨⟨⟨h1, h2⟩, h3⟩, h4⟩, h5⟩, h6⟩, h7⟩, h8⟩ := h
  obtain ⟨g1, g2⟩ := bl_of k h2
  obtain ⟨g3, g4⟩ := bl_of k h4
  obtain ⟨s1, s2⟩ := ss.b (H0 := H0) (W := W) k h7
  have s2 := s2 h5
  dsimp only at e1 e2 e3
  subst h1 h3 e2 e3 e1
  refine ⟨?_, fun _ _ _ z => nomatch z⟩
  cases r2 with
  | nil => cases h6
  | cons z zs =>
    unfold allPlain at h5
    rw [List.all_cons, Bool.and_eq_true] at h5
    exact Snd.congr (snd_rgAl k.calm g1 g2 g3 g4 s1 h5.1 h5.2) (gr_congr h8 s2)) rfl (fun _ _ _ => rfl) (fun _ _ => rfl)
/-- only walks -/
theorem SO.walk {ie : IE} (cc : SC bo cs φ ie) (ho : iterOnly ie = true) (hb : ∀ c m es, okA ie c m es = false) (hk : ∀ c ks, okK ie c ks = false) : SO bo cs φ ie := by
  refine ⟨?_, ?_, ?_, cc⟩
  · intro c X H0 W e k h z
    rw [ho] at z
    cases z
  · intro c X H0 W m es k h
    rw [hb] at h
    cases h
  · intro c X H0 W kws k h
    rw [hk] at h
    cases h
theorem liftI_congr {X : Cx} {H0 : Hp} {W : WX} {tg e : Expr} {st : Bool} {g g' : Env → Bx → R P} (h : PI X tg e (liftI bo H0 cs W st g)) (q : ∀ en b, g en b = g' en b) : PI X tg e (liftI bo H0 cs W st g') := by
  have : g = g' := funext fun en => funext fun b => q en b
  rw [← this]
  exact h
/-- a result that has n values -/
theorem gs_congr {g : Env → Bx → R P} {f f' : List P → Option (List P)} {n : Nat} (hl : ∀ en b d b', g en b = .ok d b' → (argsOf d).length = n) (hf : ∀ ds : List P, ds.length = n → f ds = f' ds) (en : Env) (b : Bx) :
    ((g en b).bind fun ds b1 => R.ofO ((f (argsOf ds)).map PyData.list) b1) = (g en b).bind fun ds b1 => R.ofO ((f' (argsOf ds)).map PyData.list) b1 := by
  have h := hl en b
  cases q : g en b with
  | no => rfl
  | ex c d b => rfl
  | ok d b1 =>
    rw [bindR_ok, bindR_ok, hf _ (h d b1 q)]
theorem so_dvals {fr : Bool} {a : IE} (sa : SO bo cs φ a) : SO bo cs φ (.dvals fr a) := SO.walk (by
  intro c X H0 W e tg st k h _ ht hv
  obtain ⟨q, hq, h⟩ := oB_some (show oB (vMt e) false _ = true from h)
  obtain ⟨q1, q2, q3, q4, q5⟩ := q
  have e1 := vMt_of hq
  simp only [Bool.and_eq_true, Bool.not_eq_true', decide_eq_true_eq] at h
  obtain ⟨⟨⟨⟨⟨⟨h1, h2⟩, h3⟩, h4⟩, h5⟩, h6⟩, h7⟩ := h
  dsimp only at e1 h1
  subst e1 h1
  have hf : fr = true → frE c a = true := fun z => by
    rw [z] at h5
    exact h5
  have hs : st = true → fr = false → ovE a = false := fun z1 z2 => by
    have := hv z1
    have this : (!fr && ovE a) = false := this
    rw [z2] at this
    exact this
  cases q4 with
  | cons y ys => cases h2
  | nil =>
    exact spi_vals (sa.a k h3 h4).1 hf hs (base_of h7) h6) rfl (fun _ _ _ => rfl) (fun _ _ => rfl)
theorem so_dkeys {fr : Bool} {a : IE} (sa : SO bo cs φ a) : SO bo cs φ (.dkeys fr a) := SO.walk (by
  intro c X H0 W e tg st k h _ ht hv
  obtain ⟨q, hq, h⟩ := oB_some (show oB (vMt e) false _ = true from h)
  obtain ⟨q1, q2, q3, q4, q5⟩ := q
  have e1 := vMt_of hq
  simp only [Bool.and_eq_true, Bool.not_eq_true', decide_eq_true_eq] at h
  obtain ⟨⟨⟨⟨⟨⟨h1, h2⟩, h3⟩, h4⟩, h5⟩, h6⟩, h7⟩ := h
  dsimp only at e1 h1
  subst e1 h1
  have hf : fr = true → frE c a = true := fun z => by
    rw [z] at h5
    exact h5
  have hs : st = true → fr = false → ovE a = false := fun z1 z2 => by
    have := hv z1
    have this : (!fr && ovE a) = false := this
    rw [z2] at this
    exact this
  cases q4 with
  | cons y ys => cases h2
  | nil =>
    exact spi_keysM (sa.a k h3 h4).1 hf hs (base_of h7) h6) rfl (fun _ _ _ => rfl) (fun _ _ => rfl)
theorem so_ditems {fr : Bool} {a : IE} (sa : SO bo cs φ a) : SO bo cs φ (.ditems fr a) := SO.walk (by
  intro c X H0 W e tg st k h _ ht hv
  obtain ⟨q, hq, h⟩ := oB_some (show oB (vMt e) false _ = true from h)
  obtain ⟨q1, q2, q3, q4, q5⟩ := q
  have e1 := vMt_of hq
  simp only [Bool.and_eq_true, Bool.not_eq_true', decide_eq_true_eq] at h
  obtain ⟨⟨⟨⟨⟨⟨h1, h2⟩, h3⟩, h4⟩, h5⟩, h6⟩, h7⟩ := h
  dsimp only at e1 h1
  subst e1 h1
  have hf : fr = true → frE c a = true := fun z => by
    rw [z] at h5
    exact h5
  have hs : st = true → fr = false → ovE a = false := fun z1 z2 => by
    have := hv z1
    have this : (!fr && ovE a) = false := this
    rw [z2] at this
    exact this
  cases q4 with
  | cons y ys => cases h2
  | nil =>
    have ht := ht rfl
    cases tg with
    | Tuple elts kk tpos => exact spi_items (sa.a k h3 h4).1 hf hs (base_of h7) h6
    | _ => cases ht) rfl (fun _ _ _ => rfl) (fun _ _ => rfl)
theorem so_rng {as : IE} (ss : SO bo cs φ as) : SO bo cs φ (.rng as) := SO.walk (by
  intro c X H0 W e tg st k h _ _ _
  match e, h with
  | .Call (.Name x _) es [] _, h =>
    have h : (decide (x = "range") && blOk c x && allPlain es && !isEmptyE es && okA as c false es && decide (es.length ≤ 3)) = true := h
    simp only [Bool.and_eq_true, Bool.not_eq_true', decide_eq_true_eq] at h
    obtain ⟨⟨⟨⟨⟨h1, h2⟩, h3⟩, h4⟩, h5⟩, h6⟩ := h
    obtain ⟨g1, g2⟩ := bl_of k h2
    obtain ⟨p1, p2⟩ := ss.b (H0 := H0) (W := W) k h5
    have p2 := p2 h3
    subst h1
    match es, h3, h4, h6, p1, p2 with
    | [a], h3, h4, h6, p1, p2 =>
      have q : (notStar a && true) = true := h3
      rw [Bool.and_true] at q
      exact liftI_congr (spi_rng1 g1 g2 p1 q) (gs_congr p2 fun ds hl => by
        match ds, hl with
        | [d], _ => cases d <;> rfl)
    | [a, a2], h3, h4, h6, p1, p2 =>
      have q : (notStar a && (notStar a2 && true)) = true := h3
      rw [Bool.and_true, Bool.and_eq_true] at q
      exact liftI_congr (spi_rng2 g1 g2 p1 q.1 q.2) (gs_congr p2 fun ds hl => by
        match ds, hl with
        | [d, d2], _ => cases d <;> cases d2 <;> rfl)
    | [a, a2, a3], h3, h4, h6, p1, p2 =>
      have q : (notStar a && allPlain [a2, a3]) = true := h3
      rw [Bool.and_eq_true] at q
      exact liftI_congr (spi_rng3 g1 g2 p1 q.1 q.2) (gs_congr p2 fun ds hl => by
        match ds, hl with
        | [d, d2, d3], _ =>
          unfold rng3
          split
          · rename_i heq
            cases heq
            rfl
          · rename_i hne
            unfold rngD
            split
            · rename_i heq
              cases heq
            · rename_i heq
              cases heq
            · rename_i heq
              cases heq
              exact absurd rfl (hne _ _)
            · rfl)) rfl (fun _ _ _ => rfl) (fun _ _ => rfl)
theorem so_enm {a : IE} (sa : SO bo cs φ a) : SO bo cs φ (.enm a) := SO.walk (by
  intro c X H0 W e tg st k h _ ht hv
  match e, h with
  | .Call (.Name x q1) [y] [] q2, h =>
    have h : (decide (x = "enumerate") && blOk c x && notStar y && okE a c y && !iterOnly a) = true := h
    simp only [Bool.and_eq_true, Bool.not_eq_true', decide_eq_true_eq] at h
    obtain ⟨⟨⟨⟨h1, h2⟩, h3⟩, h4⟩, h5⟩ := h
    obtain ⟨g1, g2⟩ := bl_of k h2
    subst h1
    have ht := ht rfl
    have ha := (sa.a (H0 := H0) (W := W) k h4 h5).1
    cases tg with
    | Tuple elts kk tp =>
      have key : ∀ m : Mo, (m = .n → ovE a = false) → (st = true → m = .n) → PI X (.Tuple elts kk tp) (.Call (.Name "enumerate" q1) [y] [] q2) (liftI bo H0 cs W st (ev φ (.enm a))) := fun m hm hs =>
        liftI_congr (spi_enum (m := m) g1 g2 (spa_cons ha hm spa_nil h3) h3 hs) fun en b => by
          rw [bind_assoc]
          rfl
      cases st with
      | true => exact key .n (fun _ => hv rfl) (fun _ => rfl)
      | false => exact key .r (fun z => nomatch z) (fun z => nomatch z)
    | _ => cases ht) rfl (fun _ _ _ => rfl) (fun _ _ => rfl)
theorem so_zip {a a2 : IE} (sa : SO bo cs φ a) (sb : SO bo cs φ a2) : SO bo cs φ (.zip a a2) := SO.walk (by
  intro c X H0 W e tg st k h _ ht hv
  match e, h with
  | .Call (.Name x q1) [y, z] [] q2, h =>
    have h : (decide (x = "zip") && blOk c x && notStar y && notStar z && okE a c y && !iterOnly a && okE a2 c z && !iterOnly a2) = true := h
    simp only [Bool.and_eq_true, Bool.not_eq_true', decide_eq_true_eq] at h
    obtain ⟨⟨⟨⟨⟨⟨⟨h1, h2⟩, h3⟩, h4⟩, h5⟩, h6⟩, h7⟩, h8⟩ := h
    obtain ⟨g1, g2⟩ := bl_of k h2
    subst h1
    have ht := ht rfl
    have ha := (sa.a (H0 := H0) (W := W) k h5 h6).1
    have hb := (sb.a (H0 := H0) (W := W) k h7 h8).1
    have hp : allPlain [z] = true := by
      show (notStar z && true) = true
      rw [h4]
      rfl
    cases tg with
    | Tuple elts kk tp =>
      have key : ∀ m : Mo, (m = .n → ovE a = false ∧ ovE a2 = false) → (st = true → m = .n) → PI X (.Tuple elts kk tp) (.Call (.Name "zip" q1) [y, z] [] q2) (liftI bo H0 cs W st (ev φ (.zip a a2))) := fun m hm hs =>
        liftI_congr (spi_zip (m := m) g1 g2 (spa_cons ha (fun w => (hm w).1) (spa_cons hb (fun w => (hm w).2) spa_nil h4) h3) h3 hp hs) fun en b => by
          rw [bind_assoc]
          show ((ev φ a en b).bind fun d b1 => (((ev φ a2 en b1).bind fun d2 b2 => R.ok (.list [d2]) b2).bind fun ds b2 => R.ok (.list (d :: argsOf ds)) b2).bind fun ds b1 => R.ofO ((zip2 (argsOf ds)).map PyData.list) b1) = (ev φ a en b).bind fun d b1 => (ev φ a2 en b1).bind fun d' b2 => R.ofO ((zipV d d').map PyData.list) b2
          congr 1
          funext d b1
          rw [bind_assoc, bind_assoc]
          rfl
      cases st with
      | true =>
        have hv : (ovE a || ovE a2) = false := hv rfl
        rw [Bool.or_eq_false_iff] at hv
        exact key .n (fun _ => hv) (fun _ => rfl)
      | false => exact key .r (fun z => nomatch z) (fun z => nomatch z)
    | _ => cases ht) rfl (fun _ _ _ => rfl) (fun _ _ => rfl)
theorem PTs.imp {X : Cx} {fs : List Expr} {t u : TT} (h : PTs X fs t) (i : ∀ σ H Q, u σ H Q → t σ H Q) : PTs X fs u := ⟨fun pins s σ H Q I q => h.run pins s σ H Q I (i σ H Q q)⟩
theorem isYes_eq {ie : IE} (h : isYes ie = true) : ie = .cst (.bool true) := by
  unfold isYes at h
  split at h
  · rfl
  · cases h
theorem so_lc {own : List Nat} {elt : IE} {tg : Tg} {it ifs : IE} (se : SO bo cs φ elt) (si : SO bo cs φ it) (sf : SO bo cs φ ifs) : SO bo cs φ (.lc own elt tg it ifs) := SO.val (fun {c X H0 W e} k h _ => by
  match e, h with
  | .ListComp x [⟨t, i, fs, 0⟩] scope pos, h =>
    have h : (blkOk c scope own && okE it c i && notSet i && (!needTup it || isTup t) && okT tg (c.inBlk scope) t && (tgIx tg).all own.contains && ifsB fs (isYes ifs) (fun f => okE ifs (c.inBlk scope) f && !iterOnly ifs) && okE elt (c.inBlk scope) x && !iterOnly elt && !ovE elt) = true := h
    simp only [Bool.and_eq_true, Bool.not_eq_true', Bool.or_eq_true] at h
    obtain ⟨⟨⟨⟨⟨⟨⟨⟨⟨h1, h2⟩, h3⟩, h4⟩, h5⟩, h6⟩, h7⟩, h8⟩, h9⟩, h10⟩ := h
    obtain ⟨b1, b2, b3⟩ := blk_of k h1
    have hix : ∀ j, j ∈ tgIx tg → j ∈ own := fun j hj => by
      have := List.all_eq_true.mp h6 j hj
      simpa using this
    refine ⟨Snd.of_f ?_ rfl, fun _ _ _ z => nomatch z⟩
    have hpi : PI X t i (liftI bo H0 cs W false (ev φ it)) := by
      refine si.pi (st := false) k h2 (fun w => ?_) (fun z => nomatch z)
      rcases h4 with h4 | h4
      · rw [w] at h4
        cases h4
      · exact h4
    have r := snd_lc (H0 := H0) (W := W) (cs := cs) (pos := pos) (ifs := fs) k.calm k.nd hpi b1
      (fun s H C cl fp => okT_sound (φ := φ) (k.inBlk s H scope C cl fp) h5) (gifs := ev φ ifs) (fun s H C cl fp => ?_) (fun s H C cl fp => (((se.a (H0 := H0) (W := W0) (k.inBlk s H scope C cl fp) h8 h9).1.ovf h10).n rfl)) h3 (by rw [b2]; exact b3) (by rw [b2]; exact hix)
    · rw [b2] at r
      exact r
    · match fs, h7 with
      | [], h7 =>
        have e := isYes_eq (show isYes ifs = true from h7)
        subst e
        exact PTs.imp pts_nil fun σ H Q ⟨en, b, F, p, q⟩ => q F H (Ext.refl p.sub) p.box
      | [f], h7 =>
        have h7 : (okE ifs (c.inBlk scope) f && !iterOnly ifs) = true := h7
        simp only [Bool.and_eq_true, Bool.not_eq_true'] at h7
        exact pts_one (sf.a (H0 := H0) (W := W0) (k.inBlk s H scope C cl fp) h7.1 h7.2).1.t) rfl (fun _ _ _ => rfl) (fun _ _ => rfl)
theorem pts_of {own : List Nat} {ifs : IE} {fs : List Expr} {c : Ct} {scope : Scope} {X : Cx} {H0 : Hp} {W : WX} (sf : SO bo cs φ ifs) (k : Cok c X bo cs W φ) (h7 : ifsB fs (isYes ifs) (fun f => okE ifs (c.inBlk scope) f && !iterOnly ifs) = true) (s : Shared) (H : Hp) (C : Addr) (cl : List (Str × Addr)) (fp : List Addr) :
    PTs (X.blk s H scope (compEnvC scope cl C X.env) fp) fs (liftT bo H0 cs W0 (gT (ev φ ifs))) := by
  match fs, h7 with
  | [], h7 =>
    have e := isYes_eq (show isYes ifs = true from h7)
    subst e
    exact PTs.imp pts_nil fun σ H Q ⟨en, b, F, p, q⟩ => q F H (Ext.refl p.sub) p.box
  | [f], h7 =>
    have h7 : (okE ifs (c.inBlk scope) f && !iterOnly ifs) = true := h7
    simp only [Bool.and_eq_true, Bool.not_eq_true'] at h7
    exact pts_one (sf.a (H0 := H0) (W := W0) (k.inBlk s H scope C cl fp) h7.1 h7.2).1.t
theorem all_in {own : List Nat} {xs : List Nat} (h : xs.all own.contains = true) : ∀ j, j ∈ xs → j ∈ own := fun j hj => by
  have := List.all_eq_true.mp h j hj
  simpa using this
theorem so_lc2 {own own2 : List Nat} {elt it2 ifs2 : IE} {tg tg2 : Tg} {it ifs : IE} (se : SO bo cs φ elt) (si : SO bo cs φ it) (sf : SO bo cs φ ifs) (si2 : SO bo cs φ it2) (sf2 : SO bo cs φ ifs2) : SO bo cs φ (.lc2 own own2 elt tg it ifs tg2 it2 ifs2) := SO.val (fun {c X H0 W e} k h _ => by
  have h : (oB (vLC e) false fun q => oB (v2 q.2.1) false fun g => oB (vGen g.1) false fun g1 => oB (vGen g.2) false fun g2 =>
      (blkOk c q.2.2.1 own && okE it c g1.2.1 && notSet g1.2.1 && (!needTup it || isTup g1.1) && okT tg (c.inBlk q.2.2.1) g1.1 && (tgIx tg).all own.contains && ifsB g1.2.2 (isYes ifs) (fun f => okE ifs (c.inBlk q.2.2.1) f && !iterOnly ifs)) &&
      (okE it2 (c.inBlk q.2.2.1) g2.2.1 && notSet g2.2.1 && (!needTup it2 || isTup g2.1) && !ovI it2 && okT tg2 (c.inBlk q.2.2.1) g2.1 && (tgIx tg2).all own2.contains && own2.all own.contains && ifsB g2.2.2 (isYes ifs2) (fun f => okE ifs2 (c.inBlk q.2.2.1) f && !iterOnly ifs2)) &&
      (okE elt (c.inBlk q.2.2.1) q.1 && !iterOnly elt && !ovE elt)) = true := h
  obtain ⟨q, z1, h⟩ := oB_some h
  obtain ⟨g, z2, h⟩ := oB_some h
  obtain ⟨g1, z3, h⟩ := oB_some h
  obtain ⟨g2, z4, h⟩ := oB_some h
  have z1 := vLC_of z1
  have z2 := v2_of z2
  have z3 := vGen_of z3
  have z4 := vGen_of z4
  simp only [Bool.and_eq_true, Bool.not_eq_true', Bool.or_eq_true] at h
  obtain ⟨⟨⟨⟨⟨⟨⟨⟨a1, a2⟩, a3⟩, a4⟩, a5⟩, a6⟩, a7⟩, ⟨⟨⟨⟨⟨⟨c1, c2⟩, c3⟩, c4⟩, c5⟩, c6⟩, c7⟩, c8⟩, ⟨e1, e2⟩, e3⟩ := h
  obtain ⟨b1, b2, b3⟩ := blk_of k a1
  rw [z1, z2, z3, z4]
  refine ⟨Snd.of_f ?_ rfl, fun _ _ _ z => nomatch z⟩
  have tup : ∀ {it : IE} {t : Expr}, (needTup it = false ∨ isTup t = true) → needTup it = true → isTup t = true := fun w z => by
    rcases w with w | w
    · rw [z] at w
      cases w
    · exact w
  have r := snd_lc2 (H0 := H0) (W := W) (cs := cs) (pos := q.2.2.2) (vs1 := own2) k.calm k.nd (si.pi (st := false) k a2 (tup a4) (fun z => nomatch z)) b1 (by rw [b2]; exact all_in c7)
    (fun s H C cl fp => okT_sound (φ := φ) (k.inBlk s H q.2.2.1 C cl fp) a5) (gifs := ev φ ifs) (fun s H C cl fp => pts_of (own := own) sf k a7 s H C cl fp)
    (git2 := ev φ it2) (fun s H C cl fp => si2.pi (st := true) (k.inBlk s H q.2.2.1 C cl fp) c1 (tup c3) (fun _ => c4))
    (fun s H C cl fp => okT_sound (φ := φ) (k.inBlk s H q.2.2.1 C cl fp) c5) (gifs2 := ev φ ifs2) (fun s H C cl fp => pts_of (own := own) sf2 k c8 s H C cl fp)
    (fun s H C cl fp => (((se.a (H0 := H0) (W := W0) (k.inBlk s H q.2.2.1 C cl fp) e1 e2).1.ovf e3).n rfl)) a3 c2 (by rw [b2]; exact b3) (fun w z => b3 w (all_in c7 0 z)) (by rw [b2]; exact all_in a6) (all_in c6)
  rw [b2] at r
  exact r) rfl (fun _ _ _ => rfl) (fun _ _ => rfl)
theorem so_dcomp {own : List Nat} {kx vx : IE} {tg : Tg} {it ifs : IE} (sk : SO bo cs φ kx) (sv : SO bo cs φ vx) (si : SO bo cs φ it) (sf : SO bo cs φ ifs) : SO bo cs φ (.dcomp own kx vx tg it ifs) := SO.val (fun {c X H0 W e} k h _ => by
  have h : (oB (vDC e) false fun q => oB (v1 q.2.2.1) false fun g => oB (vGen g) false fun g1 =>
      (blkOk c q.2.2.2.1 own && okE it c g1.2.1 && notSet g1.2.1 && (!needTup it || isTup g1.1) && okT tg (c.inBlk q.2.2.2.1) g1.1 && (tgIx tg).all own.contains && ifsB g1.2.2 (isYes ifs) (fun f => okE ifs (c.inBlk q.2.2.2.1) f && !iterOnly ifs)) &&
      (okE kx (c.inBlk q.2.2.2.1) q.1 && !iterOnly kx && !ovE kx && okE vx (c.inBlk q.2.2.2.1) q.2.1 && !iterOnly vx && !ovE vx)) = true := h
  obtain ⟨q, z1, h⟩ := oB_some h
  obtain ⟨g, z2, h⟩ := oB_some h
  obtain ⟨g1, z3, h⟩ := oB_some h
  have z1 := vDC_of z1
  have z2 := v1_of z2
  have z3 := vGen_of z3
  simp only [Bool.and_eq_true, Bool.not_eq_true', Bool.or_eq_true] at h
  obtain ⟨⟨⟨⟨⟨⟨⟨a1, a2⟩, a3⟩, a4⟩, a5⟩, a6⟩, a7⟩, ⟨⟨⟨⟨e1, e2⟩, e3⟩, e4⟩, e5⟩, e6⟩ := h
  obtain ⟨b1, b2, b3⟩ := blk_of k a1
  rw [z1, z2, z3]
  refine ⟨Snd.of_f ?_ rfl, fun _ _ _ z => nomatch z⟩
  have tup : ∀ {it : IE} {t : Expr}, (needTup it = false ∨ isTup t = true) → needTup it = true → isTup t = true := fun w z => by
    rcases w with w | w
    · rw [z] at w
      cases w
    · exact w
  have r := snd_dc (H0 := H0) (W := W) (cs := cs) (pos := q.2.2.2.2) k.calm k.nd (si.pi (st := false) k a2 (tup a4) (fun z => nomatch z)) b1
    (fun s H C cl fp => okT_sound (φ := φ) (k.inBlk s H q.2.2.2.1 C cl fp) a5) (gifs := ev φ ifs) (fun s H C cl fp => pts_of (own := own) sf k a7 s H C cl fp)
    (fun s H C cl fp => (((sk.a (H0 := H0) (W := W0) (k.inBlk s H q.2.2.2.1 C cl fp) e1 e2).1.ovf e3).n rfl)) (fun s H C cl fp => (((sv.a (H0 := H0) (W := W0) (k.inBlk s H q.2.2.2.1 C cl fp) e4 e5).1.ovf e6).n rfl)) a3 (by rw [b2]; exact b3) (by rw [b2]; exact all_in a6)
  rw [b2] at r
  exact r) rfl (fun _ _ _ => rfl) (fun _ _ => rfl)
/-- a form that the checker takes nowhere -/
theorem SO.bad {ie : IE} (h1 : ∀ c e, okE ie c e = false) (hb : ∀ c m es, okA ie c m es = false) (hk : ∀ c ks, okK ie c ks = false) : SO bo cs φ ie := by
  refine ⟨?_, ?_, ?_, ?_⟩
  · intro c X H0 W e k h z
    rw [h1] at h
    cases h
  · intro c X H0 W m es k h
    rw [hb] at h
    cases h
  · intro c X H0 W kws k h
    rw [hk] at h
    cases h
  · intro c X H0 W e tg st k h
    rw [h1] at h
    cases h
theorem sub1 {P : IE → Prop} {as : IE} (h : P as) (hc : ∀ a as, P (.cons a as) → P a) : ∀ b, as = .cons b .nil → P b := fun b e => by
  subst e
  exact hc b .nil h
end
end Dv
/-! text DI -/
set_option Elab.async false
set_option linter.all false
set_option maxRecDepth 100000
set_option maxHeartbeats 4000000
namespace Dv
open PySem PySem.Spec L2
section
variable {bo : Option Addr} {cs : Cls'} {φ : Phi}
theorem so_both (ie : IE) : SO bo cs φ ie ∧ ∀ b as, ie = .cons b as → SO bo cs φ b := by
  induction ie with
  | var i => exact ⟨so_var, fun _ _ z => nomatch z⟩
  | ovar i => exact ⟨so_ovar, fun _ _ z => nomatch z⟩
  | cst d => exact ⟨so_cst, fun _ _ z => nomatch z⟩
  | glob d => exact ⟨so_glob, fun _ _ z => nomatch z⟩
  | bin op a b ha hb => exact ⟨so_bin ha.1 hb.1, fun _ _ z => nomatch z⟩
  | neg a ha => exact ⟨so_neg ha.1, fun _ _ z => nomatch z⟩
  | not a ha => exact ⟨so_not ha.1, fun _ _ z => nomatch z⟩
  | cmp op a b ha hb => exact ⟨so_cmp ha.1 hb.1, fun _ _ z => nomatch z⟩
  | chain o1 o2 a b d ha hb hd => exact ⟨so_chain ha.1 hb.1 hd.1, fun _ _ z => nomatch z⟩
  | chain3 o1 o2 o3 a b d g ha hb hd hg => exact ⟨so_chain3 ha.1 hb.1 hd.1 hg.1, fun _ _ z => nomatch z⟩
  | bget j => exact ⟨so_bget, fun _ _ z => nomatch z⟩
  | and a b ha hb => exact ⟨so_and ha.1 hb.1, fun _ _ z => nomatch z⟩
  | or a b ha hb => exact ⟨so_or ha.1 hb.1, fun _ _ z => nomatch z⟩
  | ite t a b ht ha hb => exact ⟨so_ite ht.1 ha.1 hb.1, fun _ _ z => nomatch z⟩
  | nil => exact ⟨so_nil, fun _ _ z => nomatch z⟩
  | cons a as ha hs => exact ⟨so_cons ha.1 hs.1, fun b as' z => by cases z; exact ha.1⟩
  | star a as ha hs => exact ⟨so_star ha.1 hs.1, fun _ _ z => nomatch z⟩
  | tup as hs => exact ⟨so_tup hs.1, fun _ _ z => nomatch z⟩
  | lst as hs => exact ⟨so_lst hs.1, fun _ _ z => nomatch z⟩
  | idx a i ha hi => exact ⟨so_idx ha.1 hi.1, fun _ _ z => nomatch z⟩
  | slc a lo hi ha hl hh => exact ⟨so_slc ha.1 hl.1 hh.1, fun _ _ z => nomatch z⟩
  | rev a ha => exact ⟨so_rev ha.1, fun _ _ z => nomatch z⟩
  | lc own elt tg it ifs he hi hf => exact ⟨so_lc he.1 hi.1 hf.1, fun _ _ z => nomatch z⟩
  | lc2 own own2 elt tg it ifs tg2 it2 ifs2 he hi hf hi2 hf2 => exact ⟨so_lc2 he.1 hi.1 hf.1 hi2.1 hf2.1, fun _ _ z => nomatch z⟩
  | call f as hs => exact ⟨so_call hs.1, fun _ _ z => nomatch z⟩
  | callK f pm as ks hs hk => exact ⟨so_callK hs.1 hk.1, fun _ _ z => nomatch z⟩
  | callB f as hs => exact ⟨so_callB hs.1, fun _ _ z => nomatch z⟩
  | callX f a as ha hs => exact ⟨so_callX ha.1 hs.1, fun _ _ z => nomatch z⟩
  | bi p as hs => exact ⟨so_bi hs.1, fun _ _ z => nomatch z⟩
  | isi t a ha => exact ⟨so_isi ha.1, fun _ _ z => nomatch z⟩
  | mth m a as ha hs => exact ⟨so_mth ha.1 hs.1, fun _ _ z => nomatch z⟩
  | rng as hs => exact ⟨so_rng hs.1, fun _ _ z => nomatch z⟩
  | trg as hs => exact ⟨so_trg hs.1, fun _ _ z => nomatch z⟩
  | lrg as hs => exact ⟨so_lrg hs.1, fun _ _ z => nomatch z⟩
  | enm a ha => exact ⟨so_enm ha.1, fun _ _ z => nomatch z⟩
  | zip a b ha hb => exact ⟨so_zip ha.1 hb.1, fun _ _ z => nomatch z⟩
  | tmp is a ha => exact ⟨SO.bad (fun _ _ => rfl) (fun _ _ _ => rfl) (fun _ _ => rfl), fun _ _ z => nomatch z⟩
  | dnew t => exact ⟨so_dnew, fun _ _ z => nomatch z⟩
  | dvals fr a ha => exact ⟨so_dvals ha.1, fun _ _ z => nomatch z⟩
  | ditems fr a ha => exact ⟨so_ditems ha.1, fun _ _ z => nomatch z⟩
  | dkeys fr a ha => exact ⟨so_dkeys ha.1, fun _ _ z => nomatch z⟩
  | dcomp own k v tg it ifs hk hv hi hf => exact ⟨so_dcomp hk.1 hv.1 hi.1 hf.1, fun _ _ z => nomatch z⟩
  | dof a ha => exact ⟨SO.bad (fun _ _ => rfl) (fun _ _ _ => rfl) (fun _ _ => rfl), fun _ _ z => nomatch z⟩
theorem so_all (ie : IE) : SO bo cs φ ie := (so_both ie).1
end

/-! ### statements -/
/-- a comprehension whose value is swapped into the name at once -/
def lcNow (e : Expr) (x : Str) (py : Pos) : Bool := match e with
  | .ListComp _ _ sc p => (py.line == p.line) && !(sc.names.any fun (n, k) => n == x && (k == .local || k == .cell))
  | _ => false
def notComp : Expr → Bool
  | .ListComp _ _ _ _ => false
  | .SetComp _ _ _ _ => false
  | .DictComp _ _ _ _ _ => false
  | _ => true
def isLc : Expr → Bool
  | .ListComp _ _ _ _ => true
  | .DictComp _ _ _ _ _ => true
  | _ => false
def notName : Expr → Bool
  | .Name _ _ => false
  | _ => true
/-- two or three names whose values are stored from the right -/
def swOk (vs : List Expr) (lines : Bool) : Bool := lines && vs.all notStar && !(vs.all (foldedForSure 8)) && !(vs.all (constantsAlone 8))
/-- the values are stored from the left -/
def noSw (t e : Expr) : Bool := match t, e with
  | .Tuple ts _ _, .Tuple vs _ _ => !(ts.length == 2 || ts.length == 3) || vs.all (foldedForSure 8)
  | .List _ _, .Tuple _ _ _ => false
  | _, _ => true
/-- a name that is not a plain local one -/
def offLoc (c : Ct) : Expr → Bool
  | .Name x _ => !decide (c.sc.names.lookup x = some .local)
  | _ => true
def tupEls : Expr → List Expr
  | .Tuple ts _ _ => ts
  | _ => []
def isTupB : Expr → Bool
  | .Tuple _ _ _ => true
  | _ => false
def noSwC (c : Ct) (t e : Expr) : Bool := noSw t e || (isTupB t && (tupEls t).any (offLoc c))
def setOk (c : Ct) (ow : Bool) (ie : IE) : Bool := !iterOnly ie && (if ow then frE c ie else !ovE ie)
def noS {α : Type} : List α → Bool
  | [] => true
  | _ => false
/-- target, value of a plain assignment -/
def asg1 (s : Stmt) (f : Expr → Expr → Pos → Bool) : Bool := oB (vAssign s) false fun q => oB (v1 q.1) false fun t => f t q.2.1 q.2.2
def okSet (c : Ct) (i : Nat) (ow : Bool) (e : IE) (s : Stmt) : Bool := asg1 s fun t v p => oB (vName t) false fun x => tgOk c i x.1 && locOk c x.1 && okE e c v && setOk c ow e && (notComp v || isLc v)
def okPar2 (c : Ct) (i : Nat) (oi : Bool) (j : Nat) (oj : Bool) (a b : IE) (s : Stmt) : Bool := asg1 s fun t v p => oB (vTup t) false fun ts => oB (v2 ts) false fun n => oB (vName n.1) false fun x => oB (vName n.2) false fun y => oB (vTup v) false fun vs => oB (v2 vs) false fun w =>
  (tgOk c i x.1 && locOk c x.1 && tgOk c j y.1 && locOk c y.1 && i != j && !(x.1 == y.1)) && (okE a c w.1 && setOk c oi a && okE b c w.2 && setOk c oj b) && swOk [w.1, w.2] (y.2.line == x.2.line)
def okPar3 (c : Ct) (i : Nat) (oi : Bool) (j : Nat) (oj : Bool) (l : Nat) (ol : Bool) (a b d : IE) (s : Stmt) : Bool := asg1 s fun t v p => oB (vTup t) false fun ts => oB (v3 ts) false fun n => oB (vName n.1) false fun x => oB (vName n.2.1) false fun y => oB (vName n.2.2) false fun z => oB (vTup v) false fun vs => oB (v3 vs) false fun w =>
  (tgOk c i x.1 && locOk c x.1 && tgOk c j y.1 && locOk c y.1 && tgOk c l z.1 && locOk c z.1) && (i != j && i != l && j != l && !(x.1 == y.1) && !(x.1 == z.1) && !(y.1 == z.1)) &&
      (okE a c w.1 && setOk c oi a && okE b c w.2.1 && setOk c oj b && okE d c w.2.2 && setOk c ol d) && swOk [w.1, w.2.1, w.2.2] ((y.2.line == x.2.line) && (z.2.line == x.2.line))
def okSett (c : Ct) (tg : Tg) (e : IE) (s : Stmt) : Bool := asg1 s fun t v p => okT tg c t && okE e c v && !iterOnly e && !ovE e && noSwC c t v && notStar t && (offLoc c t || notComp v)
/-- x.n(v) -/
def methS (s : Stmt) (f : Str → Str → Expr → Bool) : Bool := oB (vExpr s) false fun e => oB (vCall e) false fun q => oB (vAttr q.1) false fun a => oB (vName a.1) false fun x => oB (v1 q.2.1) false fun v => noS q.2.2.1 && (a.2.2.endLine == q.2.2.2.line) && f x.1 a.2.1 v
def okApp (c : Ct) (i : Nat) (e : IE) (s : Stmt) : Bool := methS s fun x n v => decide (n = "append") && nmOk c i x && okE e c v && !iterOnly e && !ovE e && notStar v
def okExt (c : Ct) (i : Nat) (e : IE) (s : Stmt) : Bool := methS s fun x n v => decide (n = "extend") && nmOk c i x && okE e c v && !iterOnly e && notStar v
def okStix (c : Ct) (i : Nat) (k e : IE) (s : Stmt) : Bool := asg1 s fun t v p => oB (vSub t) false fun q => oB (vName q.1) false fun x => nmOk c i x.1 && okE k c q.2 && !iterOnly k && notSlice q.2 && okE e c v && !iterOnly e && !ovE e
/-- the constant j -/
def isIntC : Expr → Nat → Bool
  | .Constant (.int i) _ _, j => decide (i = (j : Int))
  | _, _ => false
def okBset (c : Ct) (j : Nat) (e : IE) (s : Stmt) : Bool := asg1 s fun t v p => oB (vSub t) false fun q => oB (vName q.1) false fun x => c.bx && nmOk c 0 x.1 && isIntC q.2 j && okE e c v && !iterOnly e && !ovE e
def augOk : Op → Operator → Bool
  | .add, .Add => true
  | .sub, .Sub => true
  | _, _ => false
def okAug (c : Ct) (i : Nat) (op : Op) (e : IE) (s : Stmt) : Bool := oB (vAug s) false fun q => oB (vName q.1) false fun x => nmOk c i x.1 && locOk c x.1 && (!c.bx || i != 0) && okE e c q.2.2 && !iterOnly e && augOk op q.2.1
def okAugx (c : Ct) (i : Nat) (k : IE) (op : Op) (e : IE) (s : Stmt) : Bool := oB (vAug s) false fun q => oB (vSub q.1) false fun r => oB (vName r.1) false fun x => nmOk c i x.1 && okE k c r.2 && !iterOnly k && notSlice r.2 && okE e c q.2.2 && !iterOnly e && augOk op q.2.1
def okFor (c : Ct) (tg : Tg) (it : IE) (f : List Stmt → Bool) (s : Stmt) : Bool := oB (vFor s) false fun q => okT tg c q.1 && okE it c q.2.1 && notSet q.2.1 && (!needTup it || isTup q.1) && !ovI it && noS q.2.2.2 && f q.2.2.1
def okWhile (c : Ct) (t : IE) (f : List Stmt → Bool) (s : Stmt) : Bool := oB (vWhile s) false fun q => okE t c q.1 && !iterOnly t && noS q.2.2 && f q.2.1
def okIf (c : Ct) (t : IE) (f g : List Stmt → Bool) (s : Stmt) : Bool := oB (vIf s) false fun q => okE t c q.1 && !iterOnly t && f q.2.1 && g q.2.2
def isNm : Expr → Bool
  | .Name _ _ => true
  | _ => false
def okRet (c : Ct) (fr : Bool) (e : IE) (s : Stmt) : Bool := oB (vRet s) false fun q => oB q false fun v => okE e c v && !iterOnly e && (if ovE e then fr && isNm v else if fr then frE c e else true)
def okRetN (s : Stmt) : Bool := oB (vRet s) false fun q => oB q true fun _ => false
def okDrop (c : Ct) (e : IE) (s : Stmt) : Bool := oB (vExpr s) false fun v => okE e c v && !iterOnly e && notComp v
def okPass : Stmt → Bool
  | .Pass _ => true
  | _ => false
/-- name[name].append(name) -/
def putOk (s : Stmt) (f : Str → Str → Str → Bool) : Bool := oB (vExpr s) false fun e => oB (vMt e) false fun m => oB (vSub m.1) false fun a => oB (vName a.1) false fun xf => oB (vName a.2) false fun xp => oB (v1 m.2.2.2.1) false fun y => oB (vName y) false fun xq => decide (m.2.1 = "append") && (m.2.2.1.endLine == m.2.2.2.2.line) && f xf.1 xp.1 xq.1
/-- found = [[] for p in ..] -/
def nestOk (s : Stmt) (f : Str × Pos → Str × Pos → Expr → Scope → Pos → Bool) : Bool := asg1 s fun t v _ => oB (vName t) false fun xf => oB (vLC v) false fun lc => oB (vLst lc.1) false fun es => oB (v1 lc.2.1) false fun g => oB (vGen g) false fun g1 => oB (vName g1.1) false fun xp => isEmptyE es && isEmptyE g1.2.2 && f xf xp g1.2.1 lc.2.2.1 lc.2.2.2
/-- return [tuple(r) for r in found] -/
def tupsOk (s : Stmt) (f : Str → Str → Scope → Bool) : Bool := oB (vRet s) false fun v => oB v false fun v => oB (vLC v) false fun lc => oB (vFn lc.1) false fun w => oB (v1 w.2) false fun y => oB (vName y) false fun xr => oB (v1 lc.2.1) false fun g => oB (vGen g) false fun g1 => oB (vName g1.1) false fun xr2 => oB (vName g1.2.1) false fun xf => decide (w.1 = "tuple") && isEmptyE g1.2.2 && decide (xr2.1 = xr.1) && f xr.1 xf.1 lc.2.2.1
def walkOk (s : Stmt) (f : Str → Str → Str → Stmt → Bool) : Bool := oB (vFor s) false fun w => oB (vTup w.1) false fun ts => oB (v2 ts) false fun n => oB (vName n.1) false fun xq => oB (vName n.2) false fun xp => oB (vFn w.2.1) false fun en => oB (v1 en.2) false fun y => oB (vName y) false fun xb => oB (v1 w.2.2.1) false fun b => noS w.2.2.2 && decide (en.1 = "enumerate") && f xq.1 xp.1 xb.1 b
def slOk (c : Ct) (i : Nat) (x : Str) : Bool := nmOk c i x && locOk c x
def okPots (c : Ct) (f q p r : Nat) (it : IE) (bk : Nat) (ss : List Stmt) : Bool := oB (v3 ss) false fun s =>
  nestOk s.1 fun xf xp iter sc1 pl => walkOk s.2.1 fun xq xp2 xb b => putOk b fun xf2 xp3 xq2 => tupsOk s.2.2 fun xr xf3 sc2 =>
    (decide (xp2 = xp.1) && decide (xf2 = xf.1) && decide (xp3 = xp.1) && decide (xq2 = xq) && decide (xf3 = xf.1)) &&
    (slOk c f xf.1 && slOk c q xq && slOk c p xp.1 && nmOk c bk xb && f != bk && f != q && f != p && q != p) &&
    (okE it c iter && notSet iter && !needTup it && blkOk c sc1 [p] && tgOk (c.inBlk sc1) p xp.1 && blkOk c sc2 [r] && tgOk (c.inBlk sc2) r xr && nmOk (c.inBlk sc2) r xr && blOk (c.inBlk sc2) "tuple" && blOk c "enumerate") &&
    ((xf.2.line == pl.line) && !(sc1.names.any fun (n, k) => n == xf.1 && (k == .local || k == .cell)))
def exOk (c : Ct) (ci : Nat) (x : Str) : Bool := c.exs.any fun q => decide (q.1 = x) && q.2.1 == ci
def okRaise (c : Ct) (ci : Nat) (e : IE) (s : Stmt) : Bool := oB (vRaise s) false fun v => oB (vCall v) false fun q => oB (vName q.1) false fun x => oB (v1 q.2.1) false fun a => noS q.2.2.1 && exOk c ci x.1 && glOk c x.1 && okE e c a && !iterOnly e && !ovE e && notStar a
/-- x = [s, n.f, isinstance(n, B)] -/
def okSu (c : Ct) (i j : Nat) (s n f : Str) (B : String) (ss : List Stmt) : Bool := oB (v1 ss) false fun st => asg1 st fun t v p => oB (vName t) false fun x => oB (vLst v) false fun es => oB (v3 es) false fun w => oB (vStr w.1) false fun s' => oB (vAttr w.2.1) false fun a => oB (vName a.1) false fun n1 => oB (vCall w.2.2) false fun q => oB (vName q.1) false fun g =>
  oB (v2 q.2.1) false fun ys => oB (vName ys.1) false fun n2 => oB (vName ys.2) false fun b => noS q.2.2.1 && decide (s' = s) && decide (n1.1 = n) && decide (a.2.1 = f) && decide (n2.1 = n) && decide (b.1 = (B : Str)) && decide (g.1 = ("isinstance" : Str)) && (tgOk c j x.1 && locOk c x.1) && blOk c "isinstance" && blOk c (B : Str) && (decide (B = "LookupError") || decide (B = "ValueError"))
def okTry (c : Ct) (i : Nat) (f : List Stmt → Bool) (ci j : Nat) (s : Str) (st : Stmt) : Bool := oB (vTry st) false fun t => f t.1 && (c.exs.any fun q => decide (q.1 = t.2.1.1) && q.2.1 == ci && okSu c i j s t.2.2.1 q.2.2.1 q.2.2.2 t.2.2.2.1) && (tgOk c i t.2.2.1 && locOk c t.2.2.1 && nmOk c i t.2.2.1) && (i != j) && glOk c t.2.1.1
def isFrz : IS → Bool
  | .frz _ => true
  | _ => false
mutual
/-- one statement -/
def okS : IS → Ct → Bool → Stmt → Bool
  | .nop, c, fr, s => okPass s
  | .set i ow e, c, fr, s => okSet c i ow e s
  | .par2 i oi j oj a b, c, fr, s => okPar2 c i oi j oj a b s
  | .par3 i oi j oj l ol a b d, c, fr, s => okPar3 c i oi j oj l ol a b d s
  | .sett tg e, c, fr, s => okSett c tg e s
  | .app i e, c, fr, s => okApp c i e s
  | .ext i e, c, fr, s => okExt c i e s
  | .stix i k e, c, fr, s => okStix c i k e s
  | .bset j e, c, fr, s => okBset c j e s
  | .aug i op e, c, fr, s => okAug c i op e s
  | .augx i k op e, c, fr, s => okAugx c i k op e s
  | .forr tg it body, c, fr, s => okFor c tg it (fun b => okB body c fr b) s
  | .whil t body, c, fr, s => okWhile c t (fun b => okB body c fr b) s
  | .iff t a b, c, fr, s => okIf c t (fun p => okB a c fr p) (fun q => okB b c fr q) s
  | .ret e, c, fr, s => okRet c fr e s
  | .retn, c, fr, s => okRetN s
  | .drop e, c, fr, s => okDrop c e s
  | .raise ci (some e), c, fr, s => okRaise c ci e s
  | .tryx i body ci j t, c, fr, s => okTry c i (fun b => okB body c fr b) ci j t s
  | _, _, _, _ => false
termination_by structural s => s
/-- a block -/
def okB : IS → Ct → Bool → List Stmt → Bool
  | .nop, c, fr, ss => match ss with
    | [] => true
    | _ => false
  | .seq a b, c, fr, ss => match ss with
    | [] => isFrz a && okB b c fr []
    | s :: ss => if isFrz a then okB b c fr (s :: ss) else okS a c fr s && okB b c fr ss
  | .pots f q p r it bk, c, fr, ss => okPots c f q p r it bk ss
  | _, _, _, _ => false
termination_by structural s => s
end
end Dv
/-! text DP -/
set_option Elab.async false
set_option linter.all false
set_option maxRecDepth 100000
set_option maxHeartbeats 4000000
namespace Dv
open PySem PySem.Spec PyProof.Rows L2

/-! ### found = [[] for p in ..]; for q, p in enumerate(book): found[p].append(q); return [tuple(r) for r in found] -/
abbrev cell (l : List Nat) : HO := .lst (l.map fun i => V.int ((i : Nat) : Int))
section
variable {bo : Option Addr} {F0 H0 F H F' H' : Hp} {b : Bx} {D a : Addr} {ps : List Addr} {ls : List (List Nat)}
/-- the list of lists, at D -/
structure Nest (bo : Option Addr) (H0 F H : Hp) (D : Addr) (ps : List Addr) (ls : List (List Nat)) : Prop where
  d : H D = some (.lst (ps.map V.ref))
  fd : F D = none
  hd : H0 D = none
  bd : some D ≠ bo
  len : ps.length = ls.length
  nd : ps.Nodup
  off : D ∉ ps
  at_ : ∀ (j : Nat) (p : Addr) (l : List Nat), ps[j]? = some p → ls[j]? = some l → H p = some (cell l)
  new : ∀ p ∈ ps, F p = none ∧ H0 p = none ∧ some p ≠ bo
theorem Nest.held (n : Nest bo H0 F H D ps ls) {p : Addr} (hp : p ∈ ps) : ∃ o, H p = some o := by
  obtain ⟨j, hj, e⟩ := List.getElem_of_mem hp
  have hl : j < ls.length := by rw [← n.len]; exact hj
  exact ⟨_, n.at_ j p ls[j] (by rw [List.getElem?_eq_getElem hj, e]) (List.getElem?_eq_getElem hl)⟩
theorem Nest.step (n : Nest bo H0 F H D ps ls) (x : Ext bo F H F' H') : Nest bo H0 F' H' D ps ls where
  d := x.keep _ _ n.bd n.d
  fd := x.un n.fd n.d
  hd := n.hd
  bd := n.bd
  len := n.len
  nd := n.nd
  off := n.off
  at_ := fun j p l h1 h2 => x.keep _ _ (n.new p (List.mem_of_getElem? h1)).2.2 (n.at_ j p l h1 h2)
  new := fun p hp => by
    obtain ⟨o, e⟩ := n.held hp
    exact ⟨x.un (n.new p hp).1 e, (n.new p hp).2⟩
theorem ext_put {o : HO} (x : Ext bo F0 H0 F H) (h0 : H0 a = none) (hf : F a = none) : Ext bo F0 H0 F (upd H a o) :=
  ⟨x.sf, fun c u hc => by rw [upd_ne (ne_of_none hc hf)]; exact x.sub _ _ hc, fun c u n hc => by rw [upd_ne (ne_of_none hc h0)]; exact x.keep _ _ n hc, x.new⟩
theorem box_put {o : HO} (q : BoxRep bo F H b) (n : some a ≠ bo) : BoxRep bo F (upd H a o) b := fun β e => by
  obtain ⟨q1, q2⟩ := q β e
  refine ⟨q1, ?_⟩
  rw [upd_ne (fun z => n (by rw [← z]; exact e.symm))]
  exact q2
theorem free_back (x : Ext bo F H F' H') (q : BoxRep bo F' H' b) (h : H' a = none) : H a = none ∧ some a ≠ bo := by
  have n : some a ≠ bo := fun z => by
    rw [(q a z.symm).2] at h
    cases h
  refine ⟨?_, n⟩
  cases e : H a with
  | none => rfl
  | some o =>
    rw [x.keep _ _ n e] at h
    cases h
/-- a new inner list -/
theorem Nest.more (n : Nest bo H0 F H D ps ls) (hl : H a = none) (h0 : H0 a = none) (hb : some a ≠ bo) (sub : Same F H) : Nest bo H0 F (upd (upd H a (cell [])) D (.lst (ps.map V.ref ++ [.ref a]))) D (ps ++ [a]) (ls ++ [[]]) where
  d := by rw [upd_same, List.map_append] <;> rfl
  fd := n.fd
  hd := n.hd
  bd := n.bd
  len := by rw [List.length_append, List.length_append, n.len] <;> rfl
  nd := by
    rw [List.nodup_append]
    refine ⟨n.nd, by simp, fun u hu v hv z => ?_⟩
    rw [List.mem_singleton.mp hv] at z
    obtain ⟨o, e⟩ := n.held hu
    rw [z, hl] at e
    cases e
  off := fun z => by
    rcases List.mem_append.mp z with z | z
    · exact n.off z
    · rw [← List.mem_singleton.mp z, n.d] at hl
      cases hl
  at_ := fun j p l h1 h2 => by
    have na : a ≠ D := fun z => by
      rw [z, n.d] at hl
      cases hl
    by_cases hj : j < ps.length
    · rw [List.getElem?_append_left hj] at h1
      rw [List.getElem?_append_left (by rw [← n.len]; exact hj)] at h2
      have hp := List.mem_of_getElem? h1
      have e := n.at_ j p l h1 h2
      rw [upd_ne (fun z => n.off (by rw [← z]; exact hp)), upd_ne (ne_of_none e hl)]
      exact e
    · rw [List.getElem?_append_right (by omega)] at h1
      rw [List.getElem?_append_right (by rw [← n.len]; omega), ← n.len] at h2
      have hz : j - ps.length = 0 := by
        have := (List.getElem?_eq_some_iff.mp h1).1
        simp at this
        omega
      rw [hz] at h1 h2
      cases h1
      cases h2
      rw [upd_ne na, upd_same]
  new := fun p hp => by
    rcases List.mem_append.mp hp with hp | hp
    · exact n.new p hp
    · rw [List.mem_singleton.mp hp]
      exact ⟨sub.free hl, h0, hb⟩
/-- one more place in an inner list -/
theorem Nest.put {k i : Nat} {p : Addr} {l : List Nat} (n : Nest bo H0 F H D ps ls) (h1 : ps[k]? = some p) (h2 : ls[k]? = some l) : Nest bo H0 F (upd H p (.lst ((l.map fun i => V.int ((i : Nat) : Int)) ++ [.int ((i : Nat) : Int)]))) D ps (ls.set k (l ++ [i])) where
  d := by
    have hp := List.mem_of_getElem? h1
    rw [upd_ne (fun z => n.off (by rw [z]; exact hp))]
    exact n.d
  fd := n.fd
  hd := n.hd
  bd := n.bd
  len := by rw [List.length_set]; exact n.len
  nd := n.nd
  off := n.off
  at_ := fun j p' l' g1 g2 => by
    by_cases hj : k = j
    · subst hj
      rw [h1] at g1
      cases g1
      rw [List.getElem?_set_self (List.getElem?_eq_some_iff.mp h2).1] at g2
      cases g2
      rw [upd_same]
      show _ = some (HO.lst _)
      rw [List.map_append] <;> rfl
    · rw [List.getElem?_set_ne hj] at g2
      have ne : p' ≠ p := fun z => by
        subst z
        exact hj ((List.getElem?_inj (List.getElem?_eq_some_iff.mp h1).1 n.nd).mp (h1.trans g1.symm))
      rw [upd_ne ne]
      exact n.at_ j p' l' g1 g2
  new := n.new
end
theorem potsL_len : ∀ {ds : List P} {i : Nat} {acc gs : List (List Nat)}, potsL i ds acc = some gs → gs.length = acc.length
  | [], i, acc, gs, h => by
    cases h
    rfl
  | d :: ds, i, acc, gs, h => by
    cases d with
    | int k =>
      have h : (if 0 ≤ k then (match acc[k.toNat]? with | some l => potsL (i + 1) ds (acc.set k.toNat (l ++ [i])) | none => none) else none) = some gs := h
      split at h
      · split at h
        · have := potsL_len h
          rw [List.length_set] at this
          exact this
        · cases h
      · cases h
    | _ => cases h
theorem ints_rpA (F : Hp) : ∀ l : List Nat, RpA F (l.map fun i => V.int ((i : Nat) : Int)) (l.map fun i => PyData.int ((i : Nat) : Int))
  | [] => .nil
  | i :: l => .cons (.int _) (ints_rpA F l)
section
variable {X : Cx} {bo : Option Addr} {F0 H0 : Hp} {cs : Cls'} {W : WX} {fr : Bool}
abbrev gPots (f q p r : Nat) (git : Env → Bx → R P) (bk : Nat) : Env → Bx → Out := fun e b => if Nat.blt f e.length && Nat.blt q e.length && Nat.blt p e.length && Nat.blt r e.length then (git e b).out e fun d b1 => match itemsD d with
  | none => .no
  | some xs => match (getV e bk).bind (potsD xs.length) with
    | some z => .rt z b1
    | none => .no
  else .no
theorem potsD_inv {n : Nat} {d z : P} (h : potsD n d = some z) : ∃ ds gs, itemsLT d = some ds ∧ n ≤ line ∧ ds.length ≤ line ∧ potsL 0 ds (List.replicate n []) = some gs ∧ z = .list (gs.map tupN) := by
  unfold potsD at h
  split at h
  · rename_i ds e
    split at h
    · rename_i c
      rw [Bool.and_eq_true] at c
      cases q : potsL 0 ds (List.replicate n []) with
      | none =>
        rw [q] at h
        cases h
      | some gs =>
        rw [q] at h
        cases h
        exact ⟨ds, gs, e, Nat.le_of_ble_eq_true c.1, Nat.le_of_ble_eq_true c.2, q, rfl⟩
    · cases h
  · cases h
def rTupO (K : PySem.W.Frag) : List V → Hp → VK → Prop := fun xs H Q => ∃ p ys, xs = [.ref p] ∧ ((SqL K H p ys ∧ ∀ l, H l = none → Q (.ref l) (upd H l (.tup ys))) ∨ (SqT K H p ys ∧ Q (.ref p) H))
theorem yes_of {σ : L2.St} {H : Hp} {f : Bool → Hp → Prop} (h : f true H) : tYes σ H f := h
/-- the slots -/
structure SlOk (X : Cx) (bo : Option Addr) (i : Nat) (x : Str) : Prop where
  n : NmOk X i x
  l : X.env.scope.names.lookup x = some .local
theorem sS_pots {f q p r bk : Nat} {xf xq xp xr xb : Str} {iter : Expr} {git : Env → Bx → R P} {own1 own2 : List (Str × Nat)} {sc1 sc2 : Scope} {k1 : Nat} {p1 p2 p3 p4 p5 p6 p7 p8 p9 p10 p11 p12 p13 p14 p15 p16 p17 p18 p19 p20 p21 p22 p23 p24 p25 p26 : Pos}
    (hc : X.calm = true) (hN : X.N.Nodup) (hp : PassesOwn (model X.prog X.w) X.A X.env X.xe) (nf : SlOk X bo f xf) (nq : SlOk X bo q xq) (np : SlOk X bo p xp) (nb : NmOk X bk xb) (hfb : f ≠ bk) (hfq : f ≠ q) (hfp : f ≠ p) (hqp : q ≠ p)
    (hr : X.N[r]? = some xr) (hrd : (xr == ("__debug__" : Str)) = false) (hrc : (xr == ("__classdict__" : Str)) = false)
    (hi : PI X (.Name xp p2) iter (liftI bo H0 cs W false git)) (hs : notSet iter = true) (b1 : BlkOk X.N X.env.scope sc1 own1) (o1 : own1.map (·.2) = [p]) (l1 : ∀ (s : Shared) (H : Hp) (C : Addr) (cl : List (Str × Addr)) (fp : List Addr), Loc (X.blk s H sc1 (compEnvC sc1 cl C X.env) fp).env.scope xp)
    (b2 : BlkOk X.N X.env.scope sc2 own2) (o2 : own2.map (·.2) = [r]) (l2 : ∀ (s : Shared) (H : Hp) (C : Addr) (cl : List (Str × Addr)) (fp : List Addr), Loc (X.blk s H sc2 (compEnvC sc2 cl C X.env) fp).env.scope xr)
    (g2 : ∀ (s : Shared) (H : Hp) (C : Addr) (cl : List (Str × Addr)) (fp : List Addr), Gl (X.blk s H sc2 (compEnvC sc2 cl C X.env) fp) "tuple") (mt : X.mg "tuple" = none) (ge : Gl X "enumerate") (me : X.mg "enumerate" = none)
    (v2 : ∀ (s : Shared) (H : Hp) (C : Addr) (cl : List (Str × Addr)) (fp : List Addr), Vis (X.blk s H sc2 (compEnvC sc2 cl C X.env) fp).env.scope xr)
    (sw : swapsWith (.ListComp (.List [] p3) [⟨.Name xp p2, iter, [], 0⟩] sc1 p4) (some (.Name xf p1)) p5.line X.env = pure true)
    (fn1 : ∀ (s : Shared) (H : Hp) (C : Addr) (cl : List (Str × Addr)) (fp : List Addr), (X.blk s H sc1 (compEnvC sc1 cl C X.env) fp).fn xp = true ∨ (X.blk s H sc1 (compEnvC sc1 cl C X.env) fp).env.scope.names.lookup xp = some .local)
    (fn2 : ∀ (s : Shared) (H : Hp) (C : Addr) (cl : List (Str × Addr)) (fp : List Addr), (X.blk s H sc2 (compEnvC sc2 cl C X.env) fp).fn xr = true ∨ (X.blk s H sc2 (compEnvC sc2 cl C X.env) fp).env.scope.names.lookup xr = some .local)
    (hl : (p11.endLine == p12.line) = true) :
    PSs X [.Assign [.Name xf p1] (.ListComp (.List [] p3) [⟨.Name xp p2, iter, [], 0⟩] sc1 p4) p5,
      .For (.Tuple [.Name xq p6, .Name xp p7] k1 p8) (.Call (.Name "enumerate" p9) [.Name xb p10] [] p13) [.Expr (.Call (.Attribute (.Subscript (.Name xf p14) (.Name xp p15) p16) "append" p11) [.Name xq p17] [] p12) p18] [] p19,
      .Return (some (.ListComp (.Call (.Name "tuple" p20) [.Name xr p21] [] p22) [⟨.Name xr p23, .Name xf p24, [], 0⟩] sc2 p25)) p26] (liftS bo F0 H0 cs W fr (gPots f q p r git bk)) := by
  have A1 := ps_setLc (i := f) hc hN nf.n.hN nf.l sw hi b1 (fun s H C cl fp => pg_name (i := p) (X := X.blk s H sc1 (compEnvC sc1 cl C X.env) fp) hN np.n.hN (l1 s H C cl fp) (fn1 s H C cl fp)) (fun s H C cl fp => pts_nil) (fun s H C cl fp => pe_lst pa_nil) (notSet_folded hs)
  rw [o1] at A1
  have A2 := ps_for (X := X) (pos := p19) hp hc (pi_enum2 (elts := [.Name xq p6, .Name xp p7]) (kk := k1) (tpos := p8) (pos := p13) (p := p9) ge me (pa_cons (pe_var (pos := p10) nb.hN nb.hv nb.hd nb.hcd) pa_nil) rfl)
    (pg_tup hc (pgs_cons (pg_name (i := q) (pos := p6) hN nq.n.hN (.inl nq.l) (.inr nq.l)) (pgs_cons (pg_name (i := p) (pos := p7) hN np.n.hN (.inl np.l) (.inr np.l)) pgs_nil)) rfl rfl)
    (pss_one (ps_expr (pos := p18) (pe_bm PySem.F.plainAttrs_list PySem.F.slot_list_append PySem.F.type_list_append mt_append (pe_ix (pos := p16) ix_list (pe_var (pos := p14) nf.n.hN nf.n.hv nf.n.hd nf.n.hcd) (pe_var (pos := p15) np.n.hN np.n.hv np.n.hd np.n.hcd) (fun _ _ => rfl)) (pa_cons (pe_var (pos := p17) nq.n.hN nq.n.hv nq.n.hd nq.n.hcd) pa_nil) (by rfl) (by rfl) hl (by rfl) (by rfl)) (by rfl))) (fun _ => rfl)
  have A3 := ps_ret (pos := p26) (pe_lc (pos := p25) hc hN (pi_list (tg := .Name xr p23) (pe_var (X := X) (pos := p24) nf.n.hN nf.n.hv nf.n.hd nf.n.hcd)) b2 (fun s H C cl fp => pg_name (i := r) (X := X.blk s H sc2 (compEnvC sc2 cl C X.env) fp) hN hr (l2 s H C cl fp) (fn2 s H C cl fp)) (fun s H C cl fp => pts_nil)
    (fun s H C cl fp => pe_callTy (X := X.blk s H sc2 (compEnvC sc2 cl C X.env) fp) (pos := p22) (p := p20) (r := rTupO X.K) call_tuple_of (g2 s H C cl fp) mt PyProof.Rows.boot_tuple (pa_cons (pe_var (i := r) (pos := p21) hr (v2 s H C cl fp) hrd hrc) pa_nil) (by decide) (by decide) (by rfl) (by rfl)) (fun _ => rfl))
  rw [o2] at A3
  refine PSs.imp (pss_cons A1 (pss_cons A2 (pss_one A3))) fun E σ H ⟨e, b, F, pr, x0, h⟩ => ?_
  -- found = [[] for p in ..]
  refine ⟨e, b, F, pr, ?_⟩
  dsimp only [gPots] at h
  split at h
  rotate_left
  · exact h.elim
  rename_i hlen
  rw [Bool.and_eq_true, Bool.and_eq_true, Bool.and_eq_true, pr.env.len] at hlen
  obtain ⟨⟨⟨hlf, hlq⟩, hlp⟩, hlr⟩ := hlen
  have hlf := Nat.le_of_ble_eq_true hlf
  have hlq := Nat.le_of_ble_eq_true hlq
  have hlp := Nat.le_of_ble_eq_true hlp
  have hlr := Nat.le_of_ble_eq_true hlr
  cases qi : git e b with
  | no =>
    rw [qi] at h
    exact h
  | ex c d b1 =>
    rw [qi] at h
    exact fun dd F1 H1 x1 z r => h σ dd F1 H1 (pr.step x1 z) (x0.trans x1 z) r
  | ok d b1 =>
    rw [qi] at h
    have h : finS bo F0 H0 cs W fr E F (match itemsD d with
      | none => .no
      | some xs => match (getV e bk).bind (potsD xs.length) with
        | some z => .rt z b1
        | none => .no) := h
    dsimp only
    cases qx : itemsD d with
    | none =>
      rw [qx] at h
      exact h
    | some xs =>
      rw [qx] at h
      dsimp only at h ⊢
      cases qv : getV e bk with
      | none =>
        rw [qv] at h
        exact h.elim
      | some d2 =>
        rw [qv] at h
        have h : finS bo F0 H0 cs W fr E F (match potsD xs.length d2 with
          | some z => .rt z b1
          | none => .no) := h
        cases qp : potsD xs.length d2 with
        | none =>
          rw [qp] at h
          exact h.elim
        | some z =>
          rw [qp] at h
          obtain ⟨ds, gs, i1, i2, i3, i4, rfl⟩ := potsD_inv qp
          obtain ⟨vb, sb, rb⟩ := slot_get pr.env qv
          intro J F1 H1 x1 z1 _ wk D hD
          have x01 : Ext bo F0 H0 F1 H1 := x0.trans x1 z1
          obtain ⟨hD0, bD⟩ := free_back x01 z1 hD
          have FD : F1 D = none := x01.sub.free hD
          refine ⟨fun i m Hh => m = xs.length - i ∧ i ≤ xs.length ∧ ∃ (F2 : Hp) (ps : List Addr), ps.length = i ∧ Ext bo F0 H0 F2 Hh ∧ Ext bo F1 H1 F2 Hh ∧ BoxRep bo F2 Hh b1 ∧ Nest bo H0 F2 Hh D ps (List.replicate i []),
            ⟨xs.length, rfl, Nat.zero_le _, F1, [], rfl, ext_put x01 hD0 FD, ext_put (Ext.refl x01.sub) hD FD, box_put z1 bD, ⟨upd_same, FD, hD0, bD, rfl, List.nodup_nil, List.not_mem_nil, (fun j p l w => by simp at w), (fun p w => nomatch w)⟩⟩, ?_⟩
          rintro i m Hh ⟨rfl, hi, F2, ps, hps, y0, y1, z2, n2⟩
          by_cases hlt : i < xs.length
          · obtain ⟨go, yl⟩ := (wk i F2 Hh y1).1 xs[i] (List.getElem?_eq_getElem hlt)
            refine .inr ⟨go, fun Hh => i + 1 ≤ xs.length ∧ ∃ (F2 : Hp) (ps : List Addr), ps.length = i + 1 ∧ Ext bo F0 H0 F2 Hh ∧ Ext bo F1 H1 F2 Hh ∧ BoxRep bo F2 Hh b1 ∧ Nest bo H0 F2 Hh D ps (List.replicate (i + 1) []), fun H' w => ⟨xs.length - (i + 1), by omega, rfl, w⟩, fun y H3 hy => ?_⟩
            obtain ⟨F3, x3, r3⟩ := yl y H3 hy
            have z3 : BoxRep bo F3 H3 b1 := x3.box z2
            have n3 : Nest bo H0 F3 H3 D ps (List.replicate i []) := n2.step x3.of_none
            have y03 := y0.trans x3.of_none z3
            have y13 := y1.trans x3.of_none z3
            refine ⟨wipe_eq (by rw [List.length_set, wipe_length]) fun j hj => (List.getElem?_set_ne (fun w => hj (List.mem_singleton.mpr w.symm))).trans (wipe_out hj), ?_⟩
            refine yes_of ?_
            dsimp only
            rw [if_pos rfl]
            refine ⟨Nat.zero_le _, fun l hl0 => ?_⟩
            obtain ⟨hl1, bl⟩ := free_back y03 z3 hl0
            obtain ⟨hl2, _⟩ := free_back y13 z3 hl0
            have fl : F3 l = none := y03.sub.free hl0
            have nl : D ≠ l := ne_of_none n3.d hl0
            have ee : List.replicate (i + 1) ([] : List Nat) = List.replicate i [] ++ [[]] := List.replicate_succ'
            refine ⟨ps.map V.ref, by rw [upd_ne nl]; exact n3.d, ?_, hlt, F3, ps ++ [l], by rw [List.length_append, hps] <;> rfl, ext_put (ext_put y03 hl1 fl) hD0 n3.fd, ext_put (ext_put y13 hl2 fl) hD n3.fd, box_put (box_put z3 bl) bD, ?_⟩
            · rw [List.length_map, hps, ← line_eq]
              omega
            · rw [ee]
              exact n3.more hl0 hl1 bl y03.sub
          · have hie : i = xs.length := by omega
            refine .inl ⟨(wk i F2 Hh y1).2 hie, ?_⟩
            rw [hie] at n2 hps
            clear wk
            -- for q, p in enumerate(book): found[p].append(q)
            have sff : (σ.set f (some (V.ref D)))[f]? = some (some (V.ref D)) := List.getElem?_set_self hlf
            have sfb : (σ.set f (some (V.ref D)))[bk]? = some (some vb) := by
              rw [List.getElem?_set_ne hfb]
              exact sb
            generalize hσ1 : σ.set f (some (V.ref D)) = σ1 at sff sfb
            have len1 : σ1.length = σ.length := by rw [← hσ1, List.length_set]
            have x02 : Ext bo F0 H0 F2 Hh := y0
            -- what is walked
            have rb2 : Rp F2 vb d2 := rb.mono (x1.sf.trans y1.sf)
            have last : ∀ {σ2 : L2.St} {H2 : Hp} {acc : List (List Nat)}, Ext bo F0 H0 F2 H2 → BoxRep bo F2 H2 b1 → Nest bo H0 F2 H2 D ps gs → σ2.length = σ.length → σ2[f]? = some (some (V.ref D)) → tRet (tLc (iList X.K (tVar f)) (gName r) tYes (tCB (rTupO X.K) (tCons (tVar r) tNil)) [r]) E σ2 H2 := fun {σ2 H2 acc} w1 w2 w3 w4 w5 => by
              have n0 := w3
              refine ⟨.ref D, w5, D, rfl, ⟨_, SqL.of w3.d⟩, fun D2 hD2 => ?_⟩
              obtain ⟨hD20, bD2⟩ := free_back w1 w2 hD2
              have fD2 : F2 D2 = none := w1.sub.free hD2
              have ne2 : D ≠ D2 := ne_of_none w3.d hD2
              have off2 : D2 ∉ ps := fun w => by
                obtain ⟨o, e⟩ := w3.held w
                rw [hD2] at e
                cases e
              refine lc_list (K := X.K) (a := D) (xs := ps.map V.ref) (fun i H => ∃ (F3 : Hp) (vs : List V), Ext bo F0 H0 F3 H ∧ BoxRep bo F3 H b1 ∧ Nest bo H0 F3 H D ps gs ∧ H D2 = some (.lst vs) ∧ F3 D2 = none ∧ RpA F3 vs ((gs.take i).map tupN) ∧ vs.length = i) ?_ ?_ ?_ ?_
              · have e3 := ext_new (o := .lst []) w1.sub hD2
                exact ⟨F2, [], w1.trans e3.of_none (e3.box w2), e3.box w2, w3.step e3.of_none, upd_same, fD2, .nil, rfl⟩
              · rintro i H _ ⟨F3, vs, _, _, n3, _⟩
                exact SqL.of n3.d
              · rintro i x H hx ⟨F3, vs, c1, c2, n3, c3, c4, c5, c6⟩
                refine ⟨wipe_eq (by rw [List.length_set, wipe_length]) fun j hj => (List.getElem?_set_ne (fun w => hj (List.mem_singleton.mpr w.symm))).trans (wipe_out hj), ?_⟩
                refine yes_of ?_
                rw [if_pos rfl]
                rw [List.getElem?_map] at hx
                have hip : i < ps.length := by
                  cases g : ps[i]? with
                  | none =>
                    rw [g] at hx
                    cases hx
                  | some u => exact (List.getElem?_eq_some_iff.mp g).1
                have hig : i < gs.length := by rw [← n3.len]; exact hip
                rw [List.getElem?_eq_getElem hip] at hx
                cases hx
                have hat := n3.at_ i ps[i] gs[i] (List.getElem?_eq_getElem hip) (List.getElem?_eq_getElem hig)
                refine ⟨.ref ps[i], List.getElem?_set_self (by rw [wipe_length, w4]; exact hlr), ps[i], _, rfl, .inl ⟨SqL.of hat, fun t ht => ?_⟩⟩
                obtain ⟨F4, m1, m2⟩ := made_tup c1.sub ht (ints_rpA F3 gs[i])
                have z4 : BoxRep bo F4 (upd H t (.tup (gs[i].map fun i => V.int ((i : Nat) : Int)))) b1 := m1.box c2
                have c14 := c1.trans m1.of_none z4
                have n4 := n3.step (m1.of_none (bo := bo))
                have ne4 : D2 ≠ t := ne_of_none c3 ht
                have f4 : F4 D2 = none := m1.un c4 c3
                refine ⟨vs, by rw [upd_ne ne4]; exact c3, ?_, F4, vs ++ [.ref t], ext_put c14 hD20 f4, box_put z4 bD2, ?_, upd_same, f4, ?_, by rw [List.length_append, c6] <;> rfl⟩
                · rw [c6, ← line_eq]
                  have := n3.len
                  have := potsL_len i4
                  rw [List.length_replicate] at this
                  omega
                · exact ⟨by rw [upd_ne ne2]; exact n4.d, n4.fd, n4.hd, n4.bd, n4.len, n4.nd, n4.off, fun j p l g1 g2 => by rw [upd_ne (fun w => off2 (by rw [← w]; exact List.mem_of_getElem? g1))]; exact n4.at_ j p l g1 g2, n4.new⟩
                · rw [List.take_add_one, List.getElem?_eq_getElem hig, List.map_append]
                  exact (c5.mono m1.sf).append (.cons m2 .nil)
              · rintro H ⟨F3, vs, c1, c2, n3, c3, c4, c5, c6⟩
                have hall : (gs.take (ps.map V.ref).length).map tupN = gs.map tupN := by
                  rw [List.length_map, n3.len, List.take_length]
                rw [hall] at c5
                have h : ∀ v F H, Ext bo F0 H0 F H → BoxRep bo F H b1 → lR fr bo H0 F H v (.list (gs.map tupN)) → E.rt v H := h
                have fresh : FrR bo H0 F3 H (.ref D2) (.list (gs.map tupN)) := ⟨D2, vs, rfl, bD2, hD20, c4, c3, c5⟩
                cases fr with
                | true => exact h _ F3 H c1 c2 fresh
                | false =>
                  obtain ⟨F4, g1, g2, g3, g4⟩ := FrR.fz c1 c2 (fun a w => w) fresh
                  exact h _ F4 H g1 g2 g4
            have step : ∀ (J : It) (vs : List V), RpA F2 vs ds → (∀ (i : Nat) (H2 : Hp), Same F2 H2 → (∀ v, vs[i]? = some v → J.go i H2 ∧ ∀ x H3, J.yld i H2 x H3 → ∃ T, x = V.ref T ∧ H2 T = none ∧ H3 = upd H2 T (.tup [.int ((i : Nat) : Int), v])) ∧ (i = vs.length → J.stop i H2)) →
                ∃ Wf : Nat → Nat → L2.St → Hp → Prop, (∃ m, Wf 0 m σ1 Hh) ∧ ∀ i m σ H, Wf i m σ H → (J.stop i H ∧ tRet (tLc (iList X.K (tVar f)) (gName r) tYes (tCB (rTupO X.K) (tCons (tVar r) tNil)) [r]) E σ H) ∨ (J.go i H ∧ ∃ N : L2.St → Hp → Prop, (∀ σ' H', N σ' H' → ∃ m', m' < m ∧ Wf (i + 1) m' σ' H') ∧ ∀ x H', J.yld i H x H' → gTup X.K 2 (gCons (gName q) (gCons (gName p) gNil)) x σ H' fun σ2 H2 =>
                  tDrop (tBM X.K "list" rAppend (tOp (rIxL X.K) (tVar f) (tVar p)) (tCons (tVar q) tNil)) { E with nx := N, ct := N, bk := fun σ H => tRet (tLc (iList X.K (tVar f)) (gName r) tYes (tCB (rTupO X.K) (tCons (tVar r) tNil)) [r]) E σ H } σ2 H2) := fun J vs rv jv => by
              refine ⟨fun i m σ' H2 => m = ds.length - i ∧ i ≤ ds.length ∧ ∃ acc : List (List Nat), Ext bo F0 H0 F2 H2 ∧ BoxRep bo F2 H2 b1 ∧ Nest bo H0 F2 H2 D ps acc ∧ potsL i (ds.drop i) acc = some gs ∧ (∀ l ∈ acc, l.length ≤ i) ∧ σ'.length = σ.length ∧ σ'[f]? = some (some (V.ref D)),
                ⟨ds.length, rfl, Nat.zero_le _, List.replicate xs.length [], x02, z2, n2, (by rw [List.drop_zero]; exact i4), (fun l hl => by
                  have e := (List.mem_replicate.mp hl).2
                  subst e
                  exact Nat.zero_le _), len1, sff⟩, ?_⟩
              rintro i m σ' H2 ⟨rfl, hi2, acc, w1, w2, w3, w4, w5, w6, w7⟩
              by_cases hl2 : i < ds.length
              · obtain ⟨v, hv, rv1⟩ := rv.get (List.getElem?_eq_getElem hl2)
                obtain ⟨go, yl⟩ := (jv i H2 w1.sub).1 v hv
                rw [List.drop_eq_getElem_cons hl2] at w4
                generalize hd0 : ds[i] = d0 at w4 rv1
                cases d0 with
                | int k =>
                  have w4 : (if 0 ≤ k then (match acc[k.toNat]? with | some l => potsL (i + 1) (ds.drop (i + 1)) (acc.set k.toNat (l ++ [i])) | none => none) else none) = some gs := w4
                  split at w4
                  · rename_i hk0
                    split at w4
                    · rename_i l hl
                      cases rv1
                      refine .inr ⟨go, fun σ' H2 => i + 1 ≤ ds.length ∧ ∃ acc : List (List Nat), Ext bo F0 H0 F2 H2 ∧ BoxRep bo F2 H2 b1 ∧ Nest bo H0 F2 H2 D ps acc ∧ potsL (i + 1) (ds.drop (i + 1)) acc = some gs ∧ (∀ l ∈ acc, l.length ≤ i + 1) ∧ σ'.length = σ.length ∧ σ'[f]? = some (some (V.ref D)), fun σ'' H'' w => ⟨ds.length - (i + 1), by omega, rfl, w⟩, fun y H3 hy => ?_⟩
                      obtain ⟨T, rfl, hT, rfl⟩ := yl y H3 hy
                      have e3 := ext_new (o := .tup [.int ((i : Nat) : Int), .int k]) w1.sub hT
                      have z3 : BoxRep bo F2 (upd H2 T (.tup [.int ((i : Nat) : Int), .int k])) b1 := e3.box w2
                      have w13 : Ext bo F0 H0 F2 (upd H2 T (.tup [.int ((i : Nat) : Int), .int k])) := w1.trans e3.of_none z3
                      have n3 : Nest bo H0 F2 (upd H2 T (.tup [.int ((i : Nat) : Int), .int k])) D ps acc := w3.step e3.of_none
                      have hkl : k.toNat < acc.length := (List.getElem?_eq_some_iff.mp hl).1
                      have hkp : k.toNat < ps.length := by rw [w3.len]; exact hkl
                      have hpk : ps[k.toNat]? = some ps[k.toNat] := List.getElem?_eq_getElem hkp
                      have kk : k = ((k.toNat : Nat) : Int) := by omega
                      have hat : L2.atI (ps.map V.ref) k = some (V.ref ps[k.toNat]) := by
                        have g : L2.atI (ps.map V.ref) ((k.toNat : Nat) : Int) = some (V.ref ps[k.toNat]) := by
                          refine L2.atI_nat ?_
                          rw [List.getElem?_map, hpk]
                          rfl
                        rw [← kk] at g
                        exact g
                      have sl : l.length < sizeLine := by
                        have := w5 l (List.mem_of_getElem? hl)
                        rw [← line_eq]
                        omega
                      refine ⟨T, _, rfl, SqT.of upd_same, rfl, _, _, rfl, _, _, rfl, rfl, ?_⟩
                      have lq : q < σ'.length := by rw [w6]; exact hlq
                      have lp : p < (σ'.set q (some (V.int ((i : Nat) : Int)))).length := by rw [List.length_set, w6]; exact hlp
                      refine ⟨_, (List.getElem?_set_ne (fun w => hfp w.symm)).trans ((List.getElem?_set_ne (fun w => hfq w.symm)).trans w7), _, List.getElem?_set_self lp, D, _, k, _, rfl, rfl, SqL.of n3.d, hat, .inl ⟨rfl, _, SqL.of (n3.at_ _ _ _ hpk hl)⟩, _, (List.getElem?_set_ne (fun w => hqp w.symm)).trans (List.getElem?_set_self lq), ps[k.toNat], _, _, rfl, rfl, n3.at_ _ _ _ hpk hl, by rw [List.length_map]; exact sl, ?_⟩
                      obtain ⟨c1, c2, c3⟩ := n3.new _ (List.mem_of_getElem? hpk)
                      refine ⟨hl2, acc.set k.toNat (l ++ [i]), ext_put w13 c2 c1, box_put z3 c3, n3.put hpk hl, w4, fun l' hl' => ?_, by rw [List.length_set, List.length_set, w6], ?_⟩
                      · rcases List.mem_or_eq_of_mem_set hl' with g | g
                        · have := w5 l' g
                          omega
                        · rw [g, List.length_append]
                          have := w5 l (List.mem_of_getElem? hl)
                          simp
                          omega
                      · rw [List.getElem?_set_ne (fun w => hfp w.symm), List.getElem?_set_ne (fun w => hfq w.symm)]
                        exact w7
                    · cases w4
                  · cases w4
                | _ => cases w4
              · have hie2 : i = ds.length := by omega
                subst hie2
                rw [List.drop_length] at w4
                cases w4
                exact .inl ⟨(jv _ H2 w1.sub).2 rv.length.symm, last (acc := gs) w1 w2 w3 w6 w7⟩
            show tFor (iEnum2 X.K (tCons (tVar bk) tNil)) (gTup X.K 2 (gCons (gName q) (gCons (gName p) gNil))) (tDrop (tBM X.K "list" rAppend (tOp (rIxL X.K) (tVar f) (tVar p)) (tCons (tVar q) tNil))) { E with nx := fun σ H => tRet (tLc (iList X.K (tVar f)) (gName r) tYes (tCB (rTupO X.K) (tCons (tVar r) tNil)) [r]) E σ H } (σ.set f (some (V.ref D))) Hh
            rw [hσ1]
            cases d2 with
            | list es =>
              cases i1
              cases rb2 with
              | lst ha ra =>
                refine ⟨_, sfb, _, _, rfl, .inl ⟨SqL.of (x02.sub _ _ ha), step _ _ ra fun i H2 s2 => ⟨fun v hv => ⟨⟨_, v, SqL.of (s2 _ _ ha), hv⟩, ?_⟩, fun w => ⟨_, SqL.of (s2 _ _ ha), by omega⟩⟩⟩⟩
                rintro y H3 ⟨T, v', rfl, hT, rfl, g⟩
                have e := g _ (SqL.of (s2 _ _ ha))
                rw [hv] at e
                cases e
                exact ⟨T, rfl, hT, rfl⟩
            | tuple es =>
              cases i1
              cases rb2 with
              | tup ha ra =>
                refine ⟨_, sfb, _, _, rfl, .inr ⟨SqT.of (x02.sub _ _ ha), step _ _ ra fun i H2 s2 => ⟨fun v hv => ⟨⟨_, v, SqT.of (s2 _ _ ha), hv⟩, ?_⟩, fun w => ⟨_, SqT.of (s2 _ _ ha), by omega⟩⟩⟩⟩
                rintro y H3 ⟨T, v', rfl, hT, rfl, g⟩
                have e := g _ (SqT.of (s2 _ _ ha))
                rw [hv] at e
                cases e
                exact ⟨T, rfl, hT, rfl⟩
            | _ => cases i1
end
end Dv
/-! text DJ -/
set_option Elab.async false
set_option linter.all false
set_option maxRecDepth 100000
set_option maxHeartbeats 4000000
namespace Dv
open PySem PySem.Spec L2
theorem star_false {a : Expr} (h : notStar a = true) : (match (generalizing := false) a with | .Starred .. => true | _ => false) = false := by
  cases a <;> first
    | rfl
    | cases h
theorem bk_of {env : PySem.Env} (h : env.scope.kind = .function) : env.blockKind = .function := by
  unfold Env.blockKind
  rw [h]
  rfl
theorem dups2 {x y : Str} (h : (x == y) = false) : ([x, y] : List Str).eraseDups = [x, y] := by
  have h2 : (y == x) = false := by
    rw [beq_eq_false_iff_ne] at h ⊢
    exact fun e => h e.symm
  simp [List.eraseDups, List.eraseDupsBy, List.eraseDupsBy.loop, h, h2]
theorem dups3 {x y z : Str} (h : (x == y) = false) (h3 : (x == z) = false) (h4 : (y == z) = false) : ([x, y, z] : List Str).eraseDups = [x, y, z] := by
  have h2 : (y == x) = false := by
    rw [beq_eq_false_iff_ne] at h ⊢
    exact fun e => h e.symm
  have h5 : (z == x) = false := by
    rw [beq_eq_false_iff_ne] at h3 ⊢
    exact fun e => h3 e.symm
  have h6 : (z == y) = false := by
    rw [beq_eq_false_iff_ne] at h4 ⊢
    exact fun e => h4 e.symm
  simp [List.eraseDups, List.eraseDupsBy, List.eraseDupsBy.loop, h, h2, h3, h4, h5, h6]
theorem sw2 {x y : Str} {px py pt pt2 : Pos} {kt k2 : Nat} {a b : Expr} {env : PySem.Env} (hk : env.scope.kind = .function) (hx : env.scope.names.lookup x = some .local) (hy : env.scope.names.lookup y = some .local) (hxy : (x == y) = false) (h : swOk [a, b] (py.line == px.line) = true) :
    swappedStores [.Tuple [.Name x px, .Name y py] kt pt] (.Tuple [a, b] k2 pt2) env = pure (some [x, y]) := by
  unfold swOk at h
  simp only [Bool.and_eq_true, Bool.not_eq_true'] at h
  obtain ⟨⟨⟨h1, h2⟩, h3⟩, h4⟩ := h
  have kx : env.kindOf x = some .local := hx
  have ky : env.kindOf y = some .local := hy
  have h2a : notStar a = true ∧ notStar b = true := by simpa using h2
  have hp : (Expr.Name x px).pos.line = px.line := rfl
  unfold swappedStores
  simp [bk_of hk, kx, ky, dups2 hxy, h3, h4, eq_of_beq h1, List.filterMap_cons, hp]
  intro q
  exfalso
  rcases q with q | q
  · split at q
    · cases h2a.1
    · cases q
  · split at q
    · cases h2a.2
    · cases q
theorem sw3 {x y z : Str} {px py pz pt pt2 : Pos} {kt k2 : Nat} {a b c : Expr} {env : PySem.Env} (hk : env.scope.kind = .function) (hx : env.scope.names.lookup x = some .local) (hy : env.scope.names.lookup y = some .local) (hz : env.scope.names.lookup z = some .local)
    (hxy : (x == y) = false) (hxz : (x == z) = false) (hyz : (y == z) = false) (h : swOk [a, b, c] ((py.line == px.line) && (pz.line == px.line)) = true) :
    swappedStores [.Tuple [.Name x px, .Name y py, .Name z pz] kt pt] (.Tuple [a, b, c] k2 pt2) env = pure (some [x, y, z]) := by
  unfold swOk at h
  simp only [Bool.and_eq_true, Bool.not_eq_true'] at h
  obtain ⟨⟨⟨⟨h1, h1z⟩, h2⟩, h3⟩, h4⟩ := h
  have kx : env.kindOf x = some .local := hx
  have ky : env.kindOf y = some .local := hy
  have kz : env.kindOf z = some .local := hz
  have h2a : notStar a = true ∧ notStar b = true ∧ notStar c = true := by simpa using h2
  have hp : (Expr.Name x px).pos.line = px.line := rfl
  unfold swappedStores
  simp [bk_of hk, kx, ky, kz, dups3 hxy hxz hyz, h3, h4, eq_of_beq h1, eq_of_beq h1z, List.filterMap_cons, hp]
  intro q
  exfalso
  rcases q with q | q | q
  · split at q
    · cases h2a.1
    · cases q
  · split at q
    · cases h2a.2.1
    · cases q
  · split at q
    · cases h2a.2.2
    · cases q
theorem swN {t e : Expr} {env : PySem.Env} (h : noSw t e = true) : swappedStores [t] e env = pure none := by
  unfold noSw at h
  split at h
  · rename_i ts k p vs k2 p2
    rw [Bool.or_eq_true, Bool.not_eq_true'] at h
    unfold swappedStores
    rcases h with h | h
    · simp [h]
    · simp [h]
  · cases h
  · rename_i n1 n2
    unfold swappedStores
    split
    · rename_i q
      split at q
      · rename_i e1
        exact (n1 _ _ _ _ _ _ (List.cons.inj e1).1 rfl).elim
      · rename_i e1
        exact (n2 _ _ _ _ _ (List.cons.inj e1).1 rfl).elim
      · cases q
    · rfl
theorem filterMap_short {α β : Type} {f : α → Option β} : ∀ {l : List α}, (∃ a ∈ l, f a = none) → (l.filterMap f).length < l.length
  | [], ⟨a, h, _⟩ => by cases h
  | x :: xs, ⟨a, h, e⟩ => by
    rw [List.filterMap_cons]
    rcases List.mem_cons.mp h with h | h
    · subst h
      rw [e]
      have := List.length_filterMap_le f xs
      show (xs.filterMap f).length < xs.length + 1
      omega
    · have ih := filterMap_short (f := f) ⟨a, h, e⟩
      cases f x with
      | none =>
        show (xs.filterMap f).length < xs.length + 1
        omega
      | some b =>
        show (xs.filterMap f).length + 1 < xs.length + 1
        omega
theorem swNC {c : Ct} {t e : Expr} {env : PySem.Env} (hsc : env.scope = c.sc) (h : noSwC c t e = true) : swappedStores [t] e env = pure none := by
  unfold noSwC at h
  rw [Bool.or_eq_true, Bool.and_eq_true, List.any_eq_true] at h
  rcases h with h | ⟨h0, a, ha, h⟩
  · exact swN h
  · cases t with
    | Tuple ts k p =>
      cases e with
      | Tuple vs k2 p2 =>
        have hn : (ts.filterMap fun (x : Expr) => match x with
            | .Name id pos => if env.kindOf id == some .local && pos.line == (ts.head?.map (·.pos.line)).getD 0 then some id else none
            | _ => none).length < ts.length := by
          refine filterMap_short ⟨a, ha, ?_⟩
          cases a with
          | Name x px =>
            have h : (!decide (c.sc.names.lookup x = some .local)) = true := h
            have kx : env.kindOf x ≠ some .local := by
              show env.scope.names.lookup x ≠ some .local
              rw [hsc]
              simpa using h
            have : (env.kindOf x == some .local) = false := by simpa using kx
            simp [this]
          | _ => rfl
        unfold swappedStores
        simp only []
        split
        · rfl
        · split
          · rfl
          · rw [if_pos (by
              rw [Bool.or_eq_true]
              left
              rw [bne_iff_ne]
              exact Nat.ne_of_lt hn)] <;> rfl
      | _ => rfl
    | _ => cases h0
theorem swC {e : Expr} {o : Option Expr} {l : Nat} {env : PySem.Env} (h : notComp e = true) : swapsWith e o l env = pure false := by
  cases e <;> first
    | rfl
    | cases h
theorem swS {t e : Expr} {l : Nat} {env : PySem.Env} (h : notName t = true ∨ notComp e = true) : swapsWithSole [t] e l env = pure false := by
  show swapsWith e (some t) l env = pure false
  rcases h with h | h
  · cases e <;> first
      | rfl
      | (cases t <;> first
        | rfl
        | cases h)
  · exact swC h

theorem swSC {c : Ct} {t e : Expr} {l : Nat} {env : PySem.Env} (hsc : env.scope = c.sc) (h : offLoc c t = true ∨ notComp e = true) : swapsWithSole [t] e l env = pure false := by
  show swapsWith e (some t) l env = pure false
  rcases h with h | h
  · cases t with
    | Name x px =>
      have h : (!decide (c.sc.names.lookup x = some .local)) = true := h
      have kx : env.kindOf x ≠ some .local := by
        show env.scope.names.lookup x ≠ some .local
        rw [hsc]
        simpa using h
      have kb : (env.kindOf x == some .local) = false := by simpa using kx
      cases e <;> first
        | rfl
        | (unfold swapsWith; simp [kb]; done)
    | _ => cases e <;> rfl
  · exact swC h
section
variable {bo : Option Addr} {cs : Cls'} {φ : Phi} {F0 H0 : Hp} {fr : Bool}
structure CokS (c : Ct) (X : Cx) (bo : Option Addr) (cs : Cls') (W : WX) (φ : Phi) : Prop where
  k : Cok c X bo cs W φ
  kind : X.env.scope.kind = .function
  hp : PassesOwn (model X.prog X.w) X.A X.env X.xe
  stk : X.stack = X.env :: X.outer
  frm : X.env.frame = some X.env.locals
def TS' (bo : Option Addr) (F0 H0 : Hp) (cs : Cls') (φ : Phi) (is : IS) : Prop := ∀ {c : Ct} {X : Cx} {W : WX} {fr : Bool} {s : Stmt}, CokS c X bo cs W φ → okS is c fr s = true → PS X s (liftS bo F0 H0 cs W fr (ex φ is))
def TB' (bo : Option Addr) (F0 H0 : Hp) (cs : Cls') (φ : Phi) (is : IS) : Prop := ∀ {c : Ct} {X : Cx} {W : WX} {fr : Bool} {ss : List Stmt}, CokS c X bo cs W φ → okB is c fr ss = true → PSs X ss (liftS bo F0 H0 cs W fr (ex φ is))
theorem set_of {c : Ct} {ow : Bool} {ie : IE} (h : setOk c ow ie = true) : iterOnly ie = false ∧ (ow = true → frE c ie = true) ∧ (ow = false → ovE ie = false) := by
  unfold setOk at h
  rw [Bool.and_eq_true, Bool.not_eq_true'] at h
  refine ⟨h.1, fun e => ?_, fun e => ?_⟩
  · rw [e] at h
    exact h.2
  · rw [e] at h
    simpa using h.2
theorem tgS_of {c : Ct} {X : Cx} {W : WX} (k : Cok c X bo cs W φ) {i : Nat} {x : Str} (h : tgOk c i x = true) (h2 : locOk c x = true) : X.N[i]? = some x ∧ X.env.scope.names.lookup x = some .local ∧ (bo ≠ none → i ≠ 0) := by
  unfold tgOk at h
  simp only [Bool.and_eq_true, Bool.or_eq_true, decide_eq_true_eq, Bool.not_eq_true'] at h
  obtain ⟨⟨h1, _⟩, h3⟩ := h
  refine ⟨by rw [k.N]; exact h1, by rw [k.sc]; exact of_decide_eq_true h2, fun hb => ?_⟩
  rcases h3 with h3 | h3
  · exact absurd (k.bx.mpr hb) (by rw [h3]; decide)
  · simpa using h3
theorem lift_R_f {X : Cx} {H0 : Hp} {W : WX} {ow : Bool} {g : Env → Bx → R P} (σ : L2.St) (H : Hp) (Q : VK) (h : lift bo H0 cs W (lR ow bo) g σ H Q) : lift bo H0 cs W (lF bo) g σ H Q := by
  cases ow with
  | true => exact h
  | false => exact lift_n_f σ H Q h

theorem noS_of {α : Type} {l : List α} (h : noS l = true) : l = [] := by
  cases l with
  | nil => rfl
  | cons a t => cases h
theorem asg1_of {s : Stmt} {f : Expr → Expr → Pos → Bool} (h : asg1 s f = true) : ∃ t v p, s = .Assign [t] v p ∧ f t v p = true := by
  obtain ⟨q, e1, h⟩ := oB_some h
  obtain ⟨t, e2, h⟩ := oB_some h
  have e3 := vAssign_of e1
  rw [v1_of e2] at e3
  exact ⟨t, _, _, e3, h⟩
theorem methS_of {s : Stmt} {f : Str → Str → Expr → Bool} (h : methS s f = true) : ∃ x px n pa v pc pos, s = .Expr (.Call (.Attribute (.Name x px) n pa) [v] [] pc) pos ∧ (pa.endLine == pc.line) = true ∧ f x n v = true := by
  obtain ⟨e, e1, h⟩ := oB_some h
  obtain ⟨q, e2, h⟩ := oB_some h
  obtain ⟨a, e3, h⟩ := oB_some h
  obtain ⟨x, e4, h⟩ := oB_some h
  obtain ⟨v, e5, h⟩ := oB_some h
  rw [Bool.and_eq_true, Bool.and_eq_true] at h
  obtain ⟨p, e6⟩ := vExpr_of e1
  have e7 := vCall_of e2
  have e8 := vAttr_of e3
  rw [vName_of e4] at e8
  rw [e8, v1_of e5, noS_of h.1.1] at e7
  rw [e7] at e6
  exact ⟨_, _, _, _, _, _, _, e6, h.1.2, h.2⟩
theorem lc_form {c : Ct} {e : IE} {y : Expr} {gs : List Comprehension} {scope : Scope} {pos : Pos} (h : okE e c (.ListComp y gs scope pos) = true) : (∃ own elt tg it ifs t i fs, e = .lc own elt tg it ifs ∧ gs = [⟨t, i, fs, 0⟩]) ∨ ∃ own own2 elt tg it ifs tg2 it2 ifs2, e = .lc2 own own2 elt tg it ifs tg2 it2 ifs2 := by
  cases e with
  | lc own elt tg it ifs =>
    match gs, h with
    | [⟨t, i, fs, 0⟩], h => exact .inl ⟨own, elt, tg, it, ifs, t, i, fs, rfl, rfl⟩
  | lc2 own own2 elt tg it ifs tg2 it2 ifs2 => exact .inr ⟨_, _, _, _, _, _, _, _, _, rfl⟩
  | bi p as =>
    have h : okBi p c (.ListComp y gs scope pos) (fun es => okA as c false es) = true := h
    unfold okBi okBiS okBiN at h
    split at h <;> exact nomatch (show false = true from h)
  | trg as =>
    cases as with
    | cons a as => cases as <;> cases h
    | _ => cases h
  | lrg as =>
    cases as with
    | cons a as => cases as <;> cases h
    | _ => cases h
  | _ => cases h
theorem dc_form {c : Ct} {e : IE} {y z : Expr} {gs : List Comprehension} {scope : Scope} {pos : Pos} (h : okE e c (.DictComp y z gs scope pos) = true) : ∃ own kx vx tg it ifs, e = .dcomp own kx vx tg it ifs := by
  cases e with
  | dcomp own kx vx tg it ifs => exact ⟨_, _, _, _, _, _, rfl⟩
  | bi p as =>
    have h : okBi p c (.DictComp y z gs scope pos) (fun es => okA as c false es) = true := h
    unfold okBi okBiS okBiN at h
    split at h <;> exact nomatch (show false = true from h)
  | trg as =>
    cases as with
    | cons a as => cases as <;> cases h
    | _ => cases h
  | lrg as =>
    cases as with
    | cons a as => cases as <;> cases h
    | _ => cases h
  | _ => cases h
theorem ts_set {i : Nat} {ow : Bool} {e : IE} : TS' bo F0 H0 cs φ (.set i ow e) := by
  intro c X W fr s k h
  have h : okSet c i ow e s = true := h
  obtain ⟨t, v, p, hs, h⟩ := asg1_of h
  obtain ⟨xx, e1, h⟩ := oB_some h
  obtain ⟨x, py⟩ := xx
  have qe1 := vName_of e1
  subst qe1
  subst hs
  have h : (tgOk c i x && locOk c x && okE e c v && setOk c ow e && (notComp v || isLc v)) = true := h
  rw [Bool.and_eq_true, Bool.and_eq_true, Bool.and_eq_true, Bool.and_eq_true, Bool.or_eq_true] at h
  obtain ⟨⟨⟨⟨h1, h2⟩, h3⟩, h4⟩, h5⟩ := h
  obtain ⟨s1, s2, s3⟩ := set_of h4
  obtain ⟨t1, t2, t3⟩ := tgS_of k.k h1 h2
  have he := ((so_all (φ := φ) (bo := bo) (cs := cs) e).a (H0 := H0) (W := W) k.k h3 s1).1
  have kx : X.env.kindOf x = some .local := t2
  have tup : ∀ {it : IE} {t : Expr}, (needTup it = false ∨ isTup t = true) → needTup it = true → isTup t = true := fun w z => by
    rcases w with w | w
    · rw [z] at w
      cases w
    · exact w
  rcases h5 with h5 | h5
  · exact sS_set k.k.nd t1 t2 he s2 s3 (swC h5) t3
  · cases v with
    | ListComp y gs scope pos =>
      cases q : ((py.line == pos.line) && !(scope.names.any fun (n, k) => n == x && (k == .local || k == .cell))) with
      | false =>
        refine sS_set k.k.nd t1 t2 he s2 s3 ?_ t3
        unfold swapsWith
        simp only [bk_of k.kind, kx]
        show pure _ = pure false
        exact congrArg pure q
      | true =>
        rw [Bool.and_eq_true, Bool.not_eq_true'] at q
        rcases lc_form h3 with ⟨own, elt, tg, it, ifs, t, it', fs, e1, e2⟩ | ⟨own, own2, elt, tg, it, ifs, tg2, it2, ifs2, e1⟩
        · subst e1
          subst e2
          have h : (blkOk c scope own && okE it c it' && notSet it' && (!needTup it || isTup t) && okT tg (c.inBlk scope) t && (tgIx tg).all own.contains && ifsB fs (isYes ifs) (fun f => okE ifs (c.inBlk scope) f && !iterOnly ifs) && okE elt (c.inBlk scope) y && !iterOnly elt && !ovE elt) = true := h3
          simp only [Bool.and_eq_true, Bool.not_eq_true', Bool.or_eq_true] at h
          obtain ⟨⟨⟨⟨⟨⟨⟨⟨⟨h1, h2⟩, h3⟩, h4⟩, h5⟩, h6⟩, h7⟩, h8⟩, h9⟩, h10⟩ := h
          obtain ⟨b1, b2, b3⟩ := blk_of k.k h1
          have hA := ps_setLc (ifs := fs) (tt := liftT bo H0 cs W0 (gT (ev φ ifs))) (te := lift bo H0 cs W0 (lM bo .n) (ev φ elt)) k.k.calm k.k.nd t1 t2 (sw_true (l := p.line) k.kind t2 q.1 q.2) ((so_all it).pi (H0 := H0) (W := W) (st := false) k.k h2 (tup h4) (fun z => nomatch z)) b1
            (fun s H C cl fp => okT_sound (φ := φ) (bo := bo) (H0 := H0) (k.k.inBlk s H scope C cl fp) h5) (fun s H C cl fp => pts_of (own := own) (so_all ifs) k.k h7 s H C cl fp) (fun s H C cl fp => ((((so_all elt).a (H0 := H0) (W := W0) (k.k.inBlk s H scope C cl fp) h8 h9).1.ovf h10).n rfl)) (notSet_folded h3)
          rw [b2] at hA
          exact setA hA (fun σ H Q w => lc_imp (by exact b3) (all_in h6) σ H Q (lift_R_f (X := X) σ H Q w)) t3
        · subst e1
          have h : (oB (vLC (.ListComp y gs scope pos)) false fun q => oB (v2 q.2.1) false fun g => oB (vGen g.1) false fun g1 => oB (vGen g.2) false fun g2 =>
            (blkOk c q.2.2.1 own && okE it c g1.2.1 && notSet g1.2.1 && (!needTup it || isTup g1.1) && okT tg (c.inBlk q.2.2.1) g1.1 && (tgIx tg).all own.contains && ifsB g1.2.2 (isYes ifs) (fun f => okE ifs (c.inBlk q.2.2.1) f && !iterOnly ifs)) &&
            (okE it2 (c.inBlk q.2.2.1) g2.2.1 && notSet g2.2.1 && (!needTup it2 || isTup g2.1) && !ovI it2 && okT tg2 (c.inBlk q.2.2.1) g2.1 && (tgIx tg2).all own2.contains && own2.all own.contains && ifsB g2.2.2 (isYes ifs2) (fun f => okE ifs2 (c.inBlk q.2.2.1) f && !iterOnly ifs2)) &&
            (okE elt (c.inBlk q.2.2.1) q.1 && !iterOnly elt && !ovE elt)) = true := h3
          obtain ⟨q0, z1, h⟩ := oB_some h
          cases z1
          obtain ⟨g, z2, h⟩ := oB_some h
          obtain ⟨g1, z3, h⟩ := oB_some h
          obtain ⟨g2, z4, h⟩ := oB_some h
          have z2 := v2_of z2
          have z3 := vGen_of z3
          have z4 := vGen_of z4
          simp only [Bool.and_eq_true, Bool.not_eq_true', Bool.or_eq_true] at h
          obtain ⟨⟨⟨⟨⟨⟨⟨⟨a1, a2⟩, a3⟩, a4⟩, a5⟩, a6⟩, a7⟩, ⟨⟨⟨⟨⟨⟨c1, c2⟩, c3⟩, c4⟩, c5⟩, c6⟩, c7⟩, c8⟩, ⟨e1, e2⟩, e3⟩ := h
          obtain ⟨b1, b2, b3⟩ := blk_of k.k a1
          have z2 : gs = [g.1, g.2] := z2
          subst z2
          rw [z3, z4]
          have hA := ps_setLc2 (ifs := g1.2.2) (ifs1 := g2.2.2) (vs1 := own2) (tt := liftT bo H0 cs W0 (gT (ev φ ifs))) (tt1 := liftT bo H0 cs W0 (gT (ev φ ifs2))) (te := lift bo H0 cs W0 (lM bo .n) (ev φ elt)) k.k.calm k.k.nd t1 t2 (sw_true (l := p.line) k.kind t2 q.1 q.2) ((so_all it).pi (H0 := H0) (W := W) (st := false) k.k a2 (tup a4) (fun z => nomatch z)) b1 (by rw [b2]; exact all_in c7)
            (fun s H C cl fp => okT_sound (φ := φ) (bo := bo) (H0 := H0) (k.k.inBlk s H scope C cl fp) a5) (fun s H C cl fp => pts_of (own := own) (so_all ifs) k.k a7 s H C cl fp)
            (fun s H C cl fp => (so_all it2).pi (H0 := H0) (W := W0) (st := true) (k.k.inBlk s H scope C cl fp) c1 (tup c3) (fun _ => c4))
            (fun s H C cl fp => okT_sound (φ := φ) (bo := bo) (H0 := H0) (k.k.inBlk s H scope C cl fp) c5) (fun s H C cl fp => pts_of (own := own) (so_all ifs2) k.k c8 s H C cl fp)
            (fun s H C cl fp => ((((so_all elt).a (H0 := H0) (W := W0) (k.k.inBlk s H scope C cl fp) e1 e2).1.ovf e3).n rfl)) (notSet_folded a3) (fun env x => notSet_folded c2 x)
          rw [b2] at hA
          exact setA hA (fun σ H Q w => lc2_imp (by exact b3) (fun w z => b3 w (all_in c7 0 z)) (all_in c7) (all_in a6) (all_in c6) σ H Q (lift_R_f (X := X) σ H Q w)) t3
    | DictComp ke ve gs scope pos =>
      obtain ⟨own, kx', vx', tg, it, ifs, e1⟩ := dc_form h3
      subst e1
      cases q : ((py.line == pos.line) && !(scope.names.any fun (n, k) => n == x && (k == .local || k == .cell))) with
      | false =>
        refine sS_set k.k.nd t1 t2 he s2 s3 ?_ t3
        unfold swapsWith
        simp only [bk_of k.kind, kx]
        show pure _ = pure false
        exact congrArg pure q
      | true =>
        rw [Bool.and_eq_true, Bool.not_eq_true'] at q
        have h : (oB (vDC (.DictComp ke ve gs scope pos)) false fun q => oB (v1 q.2.2.1) false fun g => oB (vGen g) false fun g1 =>
          (blkOk c q.2.2.2.1 own && okE it c g1.2.1 && notSet g1.2.1 && (!needTup it || isTup g1.1) && okT tg (c.inBlk q.2.2.2.1) g1.1 && (tgIx tg).all own.contains && ifsB g1.2.2 (isYes ifs) (fun f => okE ifs (c.inBlk q.2.2.2.1) f && !iterOnly ifs)) &&
          (okE kx' (c.inBlk q.2.2.2.1) q.1 && !iterOnly kx' && !ovE kx' && okE vx' (c.inBlk q.2.2.2.1) q.2.1 && !iterOnly vx' && !ovE vx')) = true := h3
        obtain ⟨q0, z1, h⟩ := oB_some h
        cases z1
        obtain ⟨g, z2, h⟩ := oB_some h
        obtain ⟨g1, z3, h⟩ := oB_some h
        have z2 := v1_of z2
        have z3 := vGen_of z3
        simp only [Bool.and_eq_true, Bool.not_eq_true', Bool.or_eq_true] at h
        obtain ⟨⟨⟨⟨⟨⟨⟨a1, a2⟩, a3⟩, a4⟩, a5⟩, a6⟩, a7⟩, ⟨⟨⟨⟨e1, e2⟩, e3⟩, e4⟩, e5⟩, e6⟩ := h
        obtain ⟨b1, b2, b3⟩ := blk_of k.k a1
        have z2 : gs = [g] := z2
        subst z2
        rw [z3]
        have hA := set_dc (ifs := g1.2.2) (tt := liftT bo H0 cs W0 (gT (ev φ ifs))) (tk := lift bo H0 cs W0 (lM bo .n) (ev φ kx')) (tv := lift bo H0 cs W0 (lM bo .n) (ev φ vx')) k.k.calm k.k.nd t1 t2 (sw_dc (l := p.line) k.kind t2 q.1 q.2) ((so_all it).pi (H0 := H0) (W := W) (st := false) k.k a2 (tup a4) (fun z => nomatch z)) b1
          (fun s H C cl fp => okT_sound (φ := φ) (bo := bo) (H0 := H0) (k.k.inBlk s H scope C cl fp) a5) (fun s H C cl fp => pts_of (own := own) (so_all ifs) k.k a7 s H C cl fp)
          (fun s H C cl fp => ((((so_all kx').a (H0 := H0) (W := W0) (k.k.inBlk s H scope C cl fp) e1 e2).1.ovf e3).n rfl)) (fun s H C cl fp => ((((so_all vx').a (H0 := H0) (W := W0) (k.k.inBlk s H scope C cl fp) e4 e5).1.ovf e6).n rfl)) (notSet_folded a3)
        rw [b2] at hA
        exact setA hA (fun σ H Q w => dc_imp (by exact b3) (all_in a6) σ H Q (lift_R_f (X := X) σ H Q w)) t3
    | _ => cases h5
theorem ts_par2 {i j : Nat} {oi oj : Bool} {a b : IE} : TS' bo F0 H0 cs φ (.par2 i oi j oj a b) := by
  intro c X W fr s k h
  have h : okPar2 c i oi j oj a b s = true := h
  obtain ⟨t, vv, p, hs, h⟩ := asg1_of h
  obtain ⟨ts, e1, h⟩ := oB_some h
  obtain ⟨⟨n1, n2⟩, e2, h⟩ := oB_some h
  obtain ⟨⟨x, px⟩, e3, h⟩ := oB_some h
  obtain ⟨⟨y, py⟩, e4, h⟩ := oB_some h
  obtain ⟨vs, e5, h⟩ := oB_some h
  obtain ⟨⟨v, w⟩, e6, h⟩ := oB_some h
  obtain ⟨k1, p1, qe1⟩ := vTup_of e1
  obtain ⟨k2, p2, qe5⟩ := vTup_of e5
  have qe2 := v2_of e2
  have qe6 := v2_of e6
  have qe3 := vName_of e3
  have qe4 := vName_of e4
  dsimp only at qe2 qe3 qe4 qe6 h
  subst qe3 qe4 qe2 qe1 qe6 qe5 hs
  · skip
    have h : ((tgOk c i x && locOk c x && tgOk c j y && locOk c y && i != j && !(x == y)) && (okE a c v && setOk c oi a && okE b c w && setOk c oj b) && swOk [v, w] (py.line == px.line)) = true := h
    rw [Bool.and_eq_true, Bool.and_eq_true] at h
    obtain ⟨⟨hA, hB⟩, h11⟩ := h
    rw [Bool.and_eq_true, Bool.and_eq_true, Bool.and_eq_true, Bool.and_eq_true, Bool.and_eq_true, Bool.not_eq_true', bne_iff_ne] at hA
    rw [Bool.and_eq_true, Bool.and_eq_true, Bool.and_eq_true] at hB
    obtain ⟨⟨⟨⟨⟨h1, h2⟩, h3⟩, h4⟩, h5⟩, h6⟩ := hA
    obtain ⟨⟨⟨h7, h8⟩, h9⟩, h10⟩ := hB
    obtain ⟨t1, t2, t3⟩ := tgS_of k.k h1 h2
    obtain ⟨u1, u2, u3⟩ := tgS_of k.k h3 h4
    obtain ⟨s1, s2, s3⟩ := set_of h8
    obtain ⟨r1, r2, r3⟩ := set_of h10
    have hst : notStar v = true ∧ notStar w = true := by
      have := h11
      unfold swOk at this
      simp only [Bool.and_eq_true] at this
      simpa using this.1.1.2
    exact sS_par2 k.k.calm k.k.nd t1 u1 h5 t2 u2 ((so_all a).a (H0 := H0) (W := W) k.k h7 s1).1 ((so_all b).a (H0 := H0) (W := W) k.k h9 r1).1 s2 s3 r2 r3 hst.1 hst.2 (sw2 k.kind t2 u2 h6 h11) fun z => ⟨t3 z, u3 z⟩
theorem ts_par3 {i j l : Nat} {oi oj ol : Bool} {a b d : IE} : TS' bo F0 H0 cs φ (.par3 i oi j oj l ol a b d) := by
  intro c X W fr s k h
  have h : okPar3 c i oi j oj l ol a b d s = true := h
  obtain ⟨t, vv, p, hs, h⟩ := asg1_of h
  obtain ⟨ts, e1, h⟩ := oB_some h
  obtain ⟨⟨n1, n2, n3⟩, e2, h⟩ := oB_some h
  obtain ⟨⟨x, px⟩, e3, h⟩ := oB_some h
  obtain ⟨⟨y, py⟩, e4, h⟩ := oB_some h
  obtain ⟨⟨z, pz⟩, e7, h⟩ := oB_some h
  obtain ⟨vs, e5, h⟩ := oB_some h
  obtain ⟨⟨v, w, u⟩, e6, h⟩ := oB_some h
  obtain ⟨k1, p1, qe1⟩ := vTup_of e1
  obtain ⟨k2, p2, qe5⟩ := vTup_of e5
  have qe2 := v3_of e2
  have qe6 := v3_of e6
  have qe3 := vName_of e3
  have qe4 := vName_of e4
  have qe7 := vName_of e7
  dsimp only at qe2 qe3 qe4 qe7 qe6 h
  subst qe3 qe4 qe7 qe2 qe1 qe6 qe5 hs
  · skip
    have h : ((tgOk c i x && locOk c x && tgOk c j y && locOk c y && tgOk c l z && locOk c z) && (i != j && i != l && j != l && !(x == y) && !(x == z) && !(y == z)) &&
      (okE a c v && setOk c oi a && okE b c w && setOk c oj b && okE d c u && setOk c ol d) && swOk [v, w, u] ((py.line == px.line) && (pz.line == px.line))) = true := h
    rw [Bool.and_eq_true, Bool.and_eq_true, Bool.and_eq_true] at h
    obtain ⟨⟨⟨hA, hB⟩, hC⟩, h11⟩ := h
    rw [Bool.and_eq_true, Bool.and_eq_true, Bool.and_eq_true, Bool.and_eq_true, Bool.and_eq_true] at hA
    rw [Bool.and_eq_true, Bool.and_eq_true, Bool.and_eq_true, Bool.and_eq_true, Bool.and_eq_true, Bool.not_eq_true', Bool.not_eq_true', Bool.not_eq_true', bne_iff_ne, bne_iff_ne, bne_iff_ne] at hB
    rw [Bool.and_eq_true, Bool.and_eq_true, Bool.and_eq_true, Bool.and_eq_true, Bool.and_eq_true] at hC
    obtain ⟨⟨⟨⟨⟨h1, h2⟩, h3⟩, h4⟩, h5⟩, h6⟩ := hA
    obtain ⟨⟨⟨⟨⟨n1, n2⟩, n3⟩, m1⟩, m2⟩, m3⟩ := hB
    obtain ⟨⟨⟨⟨⟨a1, a2⟩, a3⟩, a4⟩, a5⟩, a6⟩ := hC
    obtain ⟨t1, t2, t3⟩ := tgS_of k.k h1 h2
    obtain ⟨u1, u2, u3⟩ := tgS_of k.k h3 h4
    obtain ⟨v1, v2, v3⟩ := tgS_of k.k h5 h6
    obtain ⟨s1, s2, s3⟩ := set_of a2
    obtain ⟨r1, r2, r3⟩ := set_of a4
    obtain ⟨q1, q2, q3⟩ := set_of a6
    have hst : notStar v = true ∧ notStar w = true ∧ notStar u = true := by
      have := h11
      unfold swOk at this
      simp only [Bool.and_eq_true] at this
      simpa using this.1.1.2
    exact sS_par3 k.k.calm k.k.nd t1 u1 v1 n1 n2 n3 t2 u2 v2 ((so_all a).a (H0 := H0) (W := W) k.k a1 s1).1 ((so_all b).a (H0 := H0) (W := W) k.k a3 r1).1 ((so_all d).a (H0 := H0) (W := W) k.k a5 q1).1 s2 s3 r2 r3 q2 q3 hst.1 hst.2.1 hst.2.2 (sw3 k.kind t2 u2 v2 m1 m2 m3 h11) fun z => ⟨t3 z, u3 z, v3 z⟩
theorem ts_sett {tg : Tg} {e : IE} : TS' bo F0 H0 cs φ (.sett tg e) := by
  intro c X W fr s k h
  have h : okSett c tg e s = true := h
  obtain ⟨t, v, p, hs, h⟩ := asg1_of h
  have hh := h
  subst hs
  have h := hh
  · skip
    have h : (okT tg c t && okE e c v && !iterOnly e && !ovE e && noSwC c t v && notStar t && (offLoc c t || notComp v)) = true := h
    simp only [Bool.and_eq_true, Bool.not_eq_true', Bool.or_eq_true] at h
    obtain ⟨⟨⟨⟨⟨⟨h1, h2⟩, h3⟩, h4⟩, h5⟩, h6⟩, h7⟩ := h
    exact sS_sett (((so_all e).a (H0 := H0) (W := W) k.k h2 h3).1.ovf h4) (okT_sound k.k h1) (swSC k.k.sc h7) (swNC k.k.sc h5) h6
theorem ts_app {i : Nat} {e : IE} : TS' bo F0 H0 cs φ (.app i e) := by
  intro c X W fr s k h
  have h : okApp c i e s = true := h
  obtain ⟨x, px, n, pa, v, pc, pos, hs, h7, h⟩ := methS_of h
  have hh := h
  subst hs
  have h := hh
  · skip
    simp only [Bool.and_eq_true, Bool.not_eq_true', decide_eq_true_eq] at h
    obtain ⟨⟨⟨⟨⟨h1, h2⟩, h3⟩, h4⟩, h5⟩, h6⟩ := h
    subst h1
    exact sS_app (nm_of k.k h2) (((so_all e).a (H0 := H0) (W := W) k.k h3 h4).1.ovf h5) h6 h7
theorem ts_ext {i : Nat} {e : IE} : TS' bo F0 H0 cs φ (.ext i e) := by
  intro c X W fr s k h
  have h : okExt c i e s = true := h
  obtain ⟨x, px, n, pa, v, pc, pos, hs, h7, h⟩ := methS_of h
  have hh := h
  subst hs
  have h := hh
  · skip
    simp only [Bool.and_eq_true, Bool.not_eq_true', decide_eq_true_eq] at h
    obtain ⟨⟨⟨⟨h1, h2⟩, h3⟩, h4⟩, h6⟩ := h
    subst h1
    exact sS_ext (nm_of k.k h2) ((so_all e).a (H0 := H0) (W := W) k.k h3 h4).1 h6 h7
theorem ts_stix {i : Nat} {k' e : IE} : TS' bo F0 H0 cs φ (.stix i k' e) := by
  intro c X W fr s k h
  have h : okStix c i k' e s = true := h
  obtain ⟨t, v, p, hs, h⟩ := asg1_of h
  obtain ⟨⟨o, y⟩, e1, h⟩ := oB_some h
  obtain ⟨⟨x, px⟩, e2, h⟩ := oB_some h
  obtain ⟨p2, qe1⟩ := vSub_of e1
  have qe2 := vName_of e2
  dsimp only at qe1 qe2 h
  have hh := h
  subst qe2 qe1 hs
  have h := hh
  · rw [Bool.and_eq_true, Bool.and_eq_true, Bool.and_eq_true, Bool.and_eq_true, Bool.and_eq_true, Bool.and_eq_true, Bool.not_eq_true', Bool.not_eq_true', Bool.not_eq_true'] at h
    obtain ⟨⟨⟨⟨⟨⟨h1, h2⟩, h3⟩, h4⟩, h5⟩, h6⟩, h7⟩ := h
    exact sS_stix k.k.hu1 (nm_of k.k h1) (((so_all e).a (H0 := H0) (W := W) k.k h5 h6).1.ovf h7) ((so_all k').a (H0 := H0) (W := W) k.k h2 h3).1 h4 (swS (.inl rfl)) (swN rfl)
theorem isIntC_of {e : Expr} {j : Nat} (h : isIntC e j = true) : ∃ k p, e = .Constant (.int ((j : Nat) : Int)) k p := by
  unfold isIntC at h
  split at h
  · rw [of_decide_eq_true h]
    exact ⟨_, _, rfl⟩
  · cases h
theorem ts_bset {j : Nat} {e : IE} : TS' bo F0 H0 cs φ (.bset j e) := by
  intro c X W fr s k h
  have h : okBset c j e s = true := h
  obtain ⟨t, v, p, hs, h⟩ := asg1_of h
  obtain ⟨⟨o, y⟩, e1, h⟩ := oB_some h
  obtain ⟨⟨x, px⟩, e2, h⟩ := oB_some h
  obtain ⟨p2, qe1⟩ := vSub_of e1
  have qe2 := vName_of e2
  dsimp only at qe1 qe2 h
  have hh := h
  subst qe2 qe1 hs
  have h := hh
  rw [Bool.and_eq_true, Bool.and_eq_true, Bool.and_eq_true, Bool.and_eq_true, Bool.and_eq_true, Bool.not_eq_true', Bool.not_eq_true'] at h
  obtain ⟨⟨⟨⟨⟨h1, h2⟩, h3⟩, h4⟩, h5⟩, h6⟩ := h
  obtain ⟨k2, p3, e3⟩ := isIntC_of h3
  subst e3
  exact sS_bset (k.k.bx.mp h1) (nm_of k.k h2) (((so_all e).a (H0 := H0) (W := W) k.k h4 h5).1.ovf h6) (swS (.inl rfl)) (swN rfl)
theorem ip_of {X : Cx} {op : Op} {o : Operator} (h : augOk op o = true) : PIp X o (ipI (augF op)) := by
  cases op <;> cases o <;> first
    | (cases h; done)
    | exact ip_add
    | exact ip_sub
theorem ts_aug {i : Nat} {op : Op} {e : IE} : TS' bo F0 H0 cs φ (.aug i op e) := by
  intro c X W fr s k h
  have h : okAug c i op e s = true := h
  obtain ⟨⟨t, o, v⟩, e1, h⟩ := oB_some h
  obtain ⟨⟨x, px⟩, e2, h⟩ := oB_some h
  obtain ⟨p, qe1⟩ := vAug_of e1
  have qe2 := vName_of e2
  dsimp only at qe1 qe2 h
  have hh := h
  subst qe2 qe1
  have h := hh
  · have h : (nmOk c i x && locOk c x && (!c.bx || i != 0) && okE e c v && !iterOnly e && augOk op o) = true := h
    rw [Bool.and_eq_true, Bool.and_eq_true, Bool.and_eq_true, Bool.and_eq_true, Bool.and_eq_true, Bool.not_eq_true'] at h
    obtain ⟨⟨⟨⟨⟨h1, h2⟩, h3⟩, h4⟩, h5⟩, h6⟩ := h
    have hx : X.env.scope.names.lookup x = some .local := by rw [k.k.sc]; exact of_decide_eq_true h2
    have h0 : bo ≠ none → i ≠ 0 := fun hb => by
      simp only [Bool.or_eq_true, Bool.not_eq_true'] at h3
      rcases h3 with h3 | h3
      · exact absurd (k.k.bx.mpr hb) (by rw [h3]; decide)
      · simpa using h3
    exact sS_aug (F0 := F0) (fr := fr) (nm_of k.k h1) k.k.nd hx (ip_of h6) ((so_all e).a (H0 := H0) (W := W) k.k h4 h5).1 h0
theorem augSt_of {k : Expr} (h : notSlice k = true) : ∀ ov iv new, augStore k ov iv new = (do holding [new, ov, iv] (setItem ov iv new); release [new, ov, iv] []; pure .next) := by
  intro ov iv new
  cases k <;> first
    | rfl
    | cases h
theorem ts_augx {i : Nat} {k' : IE} {op : Op} {e : IE} : TS' bo F0 H0 cs φ (.augx i k' op e) := by
  intro c X W fr s k h
  have h : okAugx c i k' op e s = true := h
  obtain ⟨⟨t, o, v⟩, e1, h⟩ := oB_some h
  obtain ⟨⟨a, ix⟩, e3, h⟩ := oB_some h
  obtain ⟨⟨x, px⟩, e2, h⟩ := oB_some h
  obtain ⟨p, qe1⟩ := vAug_of e1
  obtain ⟨p3, qe3⟩ := vSub_of e3
  have qe2 := vName_of e2
  dsimp only at qe1 qe2 qe3 h
  have hh := h
  subst qe2 qe3 qe1
  have h := hh
  have h : (nmOk c i x && okE k' c ix && !iterOnly k' && notSlice ix && okE e c v && !iterOnly e && augOk op o) = true := h
  simp only [Bool.and_eq_true, Bool.not_eq_true'] at h
  obtain ⟨⟨⟨⟨⟨⟨h1, h2⟩, h3⟩, h4⟩, h5⟩, h6⟩, h7⟩ := h
  exact sS_augx (F0 := F0) (fr := fr) k.k.hu1 (nm_of k.k h1) (ip_of h7) ((so_all e).a (H0 := H0) (W := W) k.k h5 h6).1 ((so_all k').a (H0 := H0) (W := W) k.k h2 h3).1 (augSt_of h4)
theorem ts_ret {e : IE} : TS' bo F0 H0 cs φ (.ret e) := by
  intro c X W fr s k h
  have h : okRet c fr e s = true := h
  obtain ⟨q, e1, h⟩ := oB_some h
  obtain ⟨v, e2, h⟩ := oB_some h
  obtain ⟨p, qe1⟩ := vRet_of e1
  have hh := h
  subst e2 qe1
  have h := hh
  · have h : (okE e c v && !iterOnly e && (if ovE e then fr && isNm v else if fr then frE c e else true)) = true := h
    rw [Bool.and_eq_true, Bool.and_eq_true, Bool.not_eq_true'] at h
    obtain ⟨⟨h1, h2⟩, h3⟩ := h
    cases q : ovE e with
    | true =>
      rw [q, if_pos rfl, Bool.and_eq_true] at h3
      cases e with
      | ovar i =>
        cases v with
        | Name x p => exact sS_retO (nm_of k.k (show nmOk c i x = true from h1)) h3.1
        | _ => cases h3.2
      | _ => cases q
    | false =>
      rw [q, if_neg Bool.false_ne_true] at h3
      have he := ((so_all e).a (H0 := H0) (W := W) k.k h1 h2).1
      rw [q] at he
      refine sS_ret he (fun z => ?_) (fun _ => rfl)
      rw [z, if_pos rfl] at h3
      exact h3
theorem ts_drop {e : IE} : TS' bo F0 H0 cs φ (.drop e) := by
  intro c X W fr s k h
  have h : okDrop c e s = true := h
  obtain ⟨v, e1, h⟩ := oB_some h
  obtain ⟨p, qe1⟩ := vExpr_of e1
  have hh := h
  subst qe1
  have h := hh
  · have h : (okE e c v && !iterOnly e && notComp v) = true := h
    rw [Bool.and_eq_true, Bool.and_eq_true, Bool.not_eq_true'] at h
    exact sS_drop ((so_all e).a (H0 := H0) (W := W) k.k h.1.1 h.1.2).1 (swC h.2)
theorem ts_retN : TS' bo F0 H0 cs φ .retn := by
  intro c X W fr s k h
  have h : okRetN s = true := h
  obtain ⟨q, e1, h⟩ := oB_some h
  obtain ⟨p, qe1⟩ := vRet_of e1
  have hh := h
  subst qe1
  have h := hh
  cases q with
  | none => exact sS_retN
  | some v => cases h
theorem ts_nop : TS' bo F0 H0 cs φ .nop := by
  intro c X W fr s k h
  have h : okPass s = true := h
  cases s with
  | Pass p => exact sS_pass
  | _ => cases h
theorem ts_for {tg : Tg} {it : IE} {body : IS} (hb : TB' bo F0 H0 cs φ body) : TS' bo F0 H0 cs φ (.forr tg it body) := by
  intro c X W fr s k h
  have h : okFor c tg it (fun b => okB body c fr b) s = true := h
  obtain ⟨⟨t, i, b, els⟩, e1, h⟩ := oB_some h
  obtain ⟨p, qe1⟩ := vFor_of e1
  dsimp only at qe1 h
  · rw [Bool.and_eq_true, Bool.and_eq_true, Bool.and_eq_true, Bool.and_eq_true, Bool.and_eq_true, Bool.and_eq_true, Bool.not_eq_true', Bool.or_eq_true, Bool.not_eq_true'] at h
    obtain ⟨⟨⟨⟨⟨⟨h1, h2⟩, h3⟩, h4⟩, h5⟩, hn⟩, h6⟩ := h
    have hn := noS_of hn
    subst hn qe1
    refine sS_for k.hp k.k.calm ((so_all it).pi (st := true) k.k h2 (fun w => ?_) (fun _ => h5)) (okT_sound k.k h1) (hb k h6) h3
    rcases h4 with h4 | h4
    · rw [w] at h4
      cases h4
    · exact h4
theorem ts_while {t : IE} {body : IS} (hb : TB' bo F0 H0 cs φ body) : TS' bo F0 H0 cs φ (.whil t body) := by
  intro c X W fr s k h
  have h : okWhile c t (fun b => okB body c fr b) s = true := h
  obtain ⟨⟨x, b, els⟩, e1, h⟩ := oB_some h
  obtain ⟨p, qe1⟩ := vWhile_of e1
  dsimp only at qe1 h
  rw [Bool.and_eq_true, Bool.and_eq_true, Bool.and_eq_true, Bool.not_eq_true'] at h
  have hn := noS_of h.1.2
  have hh := h
  subst hn qe1
  have h := hh
  exact sS_while (n := fuel) k.hp ((so_all t).a (H0 := H0) (W := W) k.k h.1.1.1 h.1.1.2).1 (hb k h.2)
theorem ts_if {t : IE} {a b : IS} (ha : TB' bo F0 H0 cs φ a) (hb : TB' bo F0 H0 cs φ b) : TS' bo F0 H0 cs φ (.iff t a b) := by
  intro c X W fr s k h
  have h : okIf c t (fun p => okB a c fr p) (fun q => okB b c fr q) s = true := h
  obtain ⟨⟨x, p, q⟩, e1, h⟩ := oB_some h
  obtain ⟨pos, qe1⟩ := vIf_of e1
  dsimp only at qe1 h
  have hh := h
  subst qe1
  have h := hh
  · have h : (okE t c x && !iterOnly t && okB a c fr p && okB b c fr q) = true := h
    rw [Bool.and_eq_true, Bool.and_eq_true, Bool.and_eq_true, Bool.not_eq_true'] at h
    exact sS_if ((so_all t).a (H0 := H0) (W := W) k.k h.1.1.1 h.1.1.2).1 (ha k h.1.2) (hb k h.2)
theorem tb_nop : TB' bo F0 H0 cs φ .nop := by
  intro c X W fr ss k h
  match ss, h with
  | [], h => exact sS_nil
theorem tb_seq {a b : IS} (ha : TS' bo F0 H0 cs φ a) (hb : TB' bo F0 H0 cs φ b) : TB' bo F0 H0 cs φ (.seq a b) := by
  intro c X W fr ss k h
  have frz : isFrz a = true → ∀ ss, okB b c fr ss = true → PSs X ss (liftS bo F0 H0 cs W fr (ex φ (.seq a b))) := fun q ss hz => by
    cases a with
    | frz i => exact sS_frz (hb k hz)
    | _ => cases q
  match ss, h with
  | [], h =>
    have h : (isFrz a && okB b c fr []) = true := h
    rw [Bool.and_eq_true] at h
    exact frz h.1 [] h.2
  | s :: ss, h =>
    have h : (if isFrz a then okB b c fr (s :: ss) else okS a c fr s && okB b c fr ss) = true := h
    cases q : isFrz a with
    | true =>
      rw [q, if_pos rfl] at h
      exact frz q _ h
    | false =>
      rw [q, if_neg Bool.false_ne_true, Bool.and_eq_true] at h
      exact sS_cons (ha k h.1) (hb k h.2)
theorem emp_of {es : List Expr} (h : isEmptyE es = true) : es = [] := by
  cases es with
  | nil => rfl
  | cons e es => cases h
theorem tb_pots {f q p r bk : Nat} {it : IE} : TB' bo F0 H0 cs φ (.pots f q p r it bk) := by
  intro c X W fr ss k h
  have h : okPots c f q p r it bk ss = true := h
  obtain ⟨s3, z1, h⟩ := oB_some h
  obtain ⟨t, v, pz, hs1, h⟩ := asg1_of h
  obtain ⟨xf, a1, h⟩ := oB_some h
  obtain ⟨lc, a2, h⟩ := oB_some h
  obtain ⟨es, a3, h⟩ := oB_some h
  obtain ⟨g, a4, h⟩ := oB_some h
  obtain ⟨g1, a5, h⟩ := oB_some h
  obtain ⟨xp, a6, h⟩ := oB_some h
  rw [Bool.and_eq_true, Bool.and_eq_true] at h
  obtain ⟨⟨e1, e2⟩, h⟩ := h
  obtain ⟨w, b1, h⟩ := oB_some h
  obtain ⟨ts, b2, h⟩ := oB_some h
  obtain ⟨n, b3, h⟩ := oB_some h
  obtain ⟨xq, b4, h⟩ := oB_some h
  obtain ⟨xp2, b5, h⟩ := oB_some h
  obtain ⟨en, b6, h⟩ := oB_some h
  obtain ⟨y, b7, h⟩ := oB_some h
  obtain ⟨xb, b8, h⟩ := oB_some h
  obtain ⟨b, b9, h⟩ := oB_some h
  rw [Bool.and_eq_true, Bool.and_eq_true] at h
  obtain ⟨⟨e3, e4⟩, h⟩ := h
  obtain ⟨ex, c1, h⟩ := oB_some h
  obtain ⟨m, c2, h⟩ := oB_some h
  obtain ⟨sa, c3, h⟩ := oB_some h
  obtain ⟨xf2, c4, h⟩ := oB_some h
  obtain ⟨xp3, c5, h⟩ := oB_some h
  obtain ⟨y2, c6, h⟩ := oB_some h
  obtain ⟨xq2, c7, h⟩ := oB_some h
  rw [Bool.and_eq_true, Bool.and_eq_true] at h
  obtain ⟨⟨e5, e6⟩, h⟩ := h
  obtain ⟨rv, d1, h⟩ := oB_some h
  obtain ⟨rv2, d2, h⟩ := oB_some h
  obtain ⟨lc2, d3, h⟩ := oB_some h
  obtain ⟨w2, d4, h⟩ := oB_some h
  obtain ⟨y3, d5, h⟩ := oB_some h
  obtain ⟨xr, d6, h⟩ := oB_some h
  obtain ⟨g2, d7, h⟩ := oB_some h
  obtain ⟨g3, d8, h⟩ := oB_some h
  obtain ⟨xr2, d9, h⟩ := oB_some h
  obtain ⟨xf3, d10, h⟩ := oB_some h
  simp only [Bool.and_eq_true, decide_eq_true_eq, Bool.not_eq_true', bne_iff_ne, slOk] at h e3 e4 e5 e6
  obtain ⟨⟨⟨e7, e8⟩, e9⟩, ⟨⟨⟨⟨⟨⟨f1, f2⟩, f3⟩, f4⟩, f5⟩, ⟨⟨⟨⟨⟨⟨⟨⟨g11, g12⟩, ⟨g21, g22⟩⟩, ⟨g31, g32⟩⟩, g4⟩, g5⟩, g6⟩, g7⟩, g8⟩⟩, ⟨⟨⟨⟨⟨⟨⟨⟨⟨h1, h2⟩, h3⟩, h4⟩, h5⟩, h6⟩, h7⟩, h8⟩, h9⟩, h10⟩⟩, ⟨i1, i2⟩⟩ := h
  have z1 := v3_of z1
  obtain ⟨xfn, xfp⟩ := xf
  obtain ⟨xpn, xpp⟩ := xp
  obtain ⟨xqn, xqp⟩ := xq
  obtain ⟨xp2n, xp2p⟩ := xp2
  obtain ⟨xbn, xbp⟩ := xb
  obtain ⟨xf2n, xf2p⟩ := xf2
  obtain ⟨xp3n, xp3p⟩ := xp3
  obtain ⟨xq2n, xq2p⟩ := xq2
  obtain ⟨xrn, xrp⟩ := xr
  obtain ⟨xr2n, xr2p⟩ := xr2
  obtain ⟨xf3n, xf3p⟩ := xf3
  dsimp only at f1 f2 f3 f4 f5 e9 i1 i2
  subst f1 f2 f3 f4 f5 e9
  obtain ⟨pls, a3'⟩ := vLst_of a3
  -- the forms
  have F1 : s3.1 = .Assign [.Name xf3n xfp] (.ListComp (.List [] pls) [⟨.Name xp3n xpp, g1.2.1, [], 0⟩] lc.2.2.1 lc.2.2.2) pz := by
    have q1 := vName_of a1
    have q2 := vLC_of a2
    have q3 := a3'
    have q4 := v1_of a4
    have q5 := vGen_of a5
    have q6 := vName_of a6
    have q7 := emp_of e1
    have q8 := emp_of e2
    rw [hs1, q1, q2, q4, q5, q6, q8, q3, q7]
  obtain ⟨kt, pt, q9⟩ := vTup_of b2
  obtain ⟨pf, q10⟩ := vFor_of b1
  obtain ⟨pe, pc, q11⟩ := vFn_of b6
  obtain ⟨pex, q12⟩ := vExpr_of c1
  obtain ⟨psub, q13⟩ := vSub_of c3
  have F2 : s3.2.1 = .For (.Tuple [.Name xq2n xqp, .Name xp3n xp2p] kt pt) (.Call (.Name "enumerate" pe) [.Name xbn xbp] [] pc) [.Expr (.Call (.Attribute (.Subscript (.Name xf3n xf2p) (.Name xp3n xp3p) psub) "append" m.2.2.1) [.Name xq2n xq2p] [] m.2.2.2.2) pex] [] pf := by
    rw [q10, q9, v2_of b3, vName_of b4, vName_of b5, q11, e4, v1_of b7, vName_of b8, v1_of b9, noS_of e3, q12, vMt_of c2, q13, vName_of c4, vName_of c5, e5, v1_of c6, vName_of c7]
  obtain ⟨pr, q14⟩ := vRet_of d1
  obtain ⟨pt2, pct, q15⟩ := vFn_of d4
  have F3 : s3.2.2 = .Return (some (.ListComp (.Call (.Name "tuple" pt2) [.Name xr2n xrp] [] pct) [⟨.Name xr2n xr2p, .Name xf3n xf3p, [], 0⟩] lc2.2.2.1 lc2.2.2.2)) pr := by
    have q16 : rv = some rv2 := d2
    rw [q14, q16, vLC_of d3, q15, e7, v1_of d5, vName_of d6, v1_of d7, vGen_of d8, vName_of d9, vName_of d10, emp_of e8]
  rw [z1, F1, F2, F3]
  obtain ⟨m1, m2, m3⟩ := blk_of k.k h4
  obtain ⟨m4, m5, m6⟩ := blk_of k.k h6
  have loc : ∀ {c' : Ct} {i : Nat} {x : Str}, tgOk c' i x = true → (c'.sc.names.lookup x = some .local ∨ (c'.sc.names.lookup x = some .cell ∧ fnOk c' x = true)) := fun {c' i x} w => by
    unfold tgOk at w
    simp only [Bool.and_eq_true, Bool.or_eq_true, decide_eq_true_eq, Bool.not_eq_true', locOk] at w
    exact w.1.2
  have lc1 : X.env.scope.names.lookup xf3n = some .local := by rw [k.k.sc]; exact of_decide_eq_true g12
  have lc2' : X.env.scope.names.lookup xq2n = some .local := by rw [k.k.sc]; exact of_decide_eq_true g22
  have lc3 : X.env.scope.names.lookup xp3n = some .local := by rw [k.k.sc]; exact of_decide_eq_true g32
  have T := sS_pots (bo := bo) (F0 := F0) (H0 := H0) (cs := cs) (W := W) (fr := fr) (git := ev φ it) (r := r) (p1 := xfp) (p2 := xpp) (p3 := pls) (p4 := lc.2.2.2) (p5 := pz) (p6 := xqp) (p7 := xp2p) (p8 := pt) (k1 := kt) (p9 := pe) (p10 := xbp) (p13 := pc) (p14 := xf2p) (p15 := xp3p) (p16 := psub) (p11 := m.2.2.1) (p17 := xq2p) (p12 := m.2.2.2.2) (p18 := pex) (p19 := pf) (p20 := pt2) (p21 := xrp) (p22 := pct) (p23 := xr2p) (p24 := xf3p) (p25 := lc2.2.2.2) (p26 := pr)
    k.k.calm k.k.nd k.hp ⟨nm_of k.k g11, lc1⟩ ⟨nm_of k.k g21, lc2'⟩ ⟨nm_of k.k g31, lc3⟩ (nm_of k.k g4) g5 g6 g7 g8
    (nm_of (k.k.inBlk X.s_0 X.H_0 lc2.2.2.1 0 [] []) h8).hN (nm_of (k.k.inBlk X.s_0 X.H_0 lc2.2.2.1 0 [] []) h8).hd (nm_of (k.k.inBlk X.s_0 X.H_0 lc2.2.2.1 0 [] []) h8).hcd
    ((so_all it).pi (H0 := H0) (W := W) (st := false) k.k h1 (fun z => by rw [h3] at z; cases z) (fun z => nomatch z)) h2 m1 m2
    (fun s H C cl fp => by
      have kk := k.k.inBlk s H lc.2.2.1 C cl fp
      rcases loc h5 with w | w
      · exact .inl (by rw [kk.sc]; exact w)
      · exact .inr (by rw [kk.sc]; exact w.1))
    m4 m5
    (fun s H C cl fp => by
      have kk := k.k.inBlk s H lc2.2.2.1 C cl fp
      rcases loc h7 with w | w
      · exact .inl (by rw [kk.sc]; exact w)
      · exact .inr (by rw [kk.sc]; exact w.1))
    (fun s H C cl fp => (bl_of (k.k.inBlk s H lc2.2.2.1 C cl fp) h9).1) (bl_of (k.k.inBlk X.s_0 X.H_0 lc2.2.2.1 0 [] []) h9).2 (bl_of k.k h10).1 (bl_of k.k h10).2
    (fun s H C cl fp => (nm_of (k.k.inBlk s H lc2.2.2.1 C cl fp) h8).hv) (sw_true k.kind lc1 i1 i2)
    (fun s H C cl fp => by
      have kk := k.k.inBlk s H lc.2.2.1 C cl fp
      rcases loc h5 with w | w
      · exact .inr (by rw [kk.sc]; exact w)
      · exact .inl (by rw [kk.fn]; exact w.2))
    (fun s H C cl fp => by
      have kk := k.k.inBlk s H lc2.2.2.1 C cl fp
      rcases loc h7 with w | w
      · exact .inr (by rw [kk.sc]; exact w)
      · exact .inl (by rw [kk.fn]; exact w.2))
    e6
  exact T
theorem bad_s {is : IS} (h : ∀ c fr s, okS is c fr s = false) : TS' bo F0 H0 cs φ is := by
  intro c X W fr s k h'
  rw [h] at h'
  cases h'
theorem bad_b {is : IS} (h : ∀ c fr s, okB is c fr s = false) : TB' bo F0 H0 cs φ is := by
  intro c X W fr s k h'
  rw [h] at h'
  cases h'
theorem ext_hp {F H : Hp} {p : Addr} {o : HO} (s : Same F H) (hp : H p = none) : Ext bo F H F (upd H p o) := by
  refine ⟨Same.refl _, fun a u h => ?_, fun a u _ h => ?_, fun a u h h' => by rw [h] at h'; cases h'⟩
  · rw [upd_ne (ne_of_none (s a u h) hp)]; exact s a u h
  · rw [upd_ne (ne_of_none h hp)]; exact h
theorem box_hp {F H : Hp} {b : Bx} {p : Addr} {o : HO} (q : BoxRep bo F H b) (hp : H p = none) : BoxRep bo F (upd H p o) b := fun β e => by
  obtain ⟨q1, q2⟩ := q β e
  exact ⟨q1, by rw [upd_ne (ne_of_none q2 hp)]; exact q2⟩
theorem ext_add {F H : Hp} {p : Addr} {o : HO} (s : Same F H) (hp : H p = none) : Ext bo F H (upd F p o) (upd H p o) := by
  refine ⟨fun a u h => ?_, fun a u h => ?_, fun a u _ h => ?_, fun a u h h' => ?_⟩
  · rw [upd_ne (ne_of_none (s a u h) hp)]; exact h
  · by_cases e : a = p
    · subst e
      rw [upd_same] at h ⊢
      exact h
    · rw [upd_ne e] at h ⊢
      exact s a u h
  · rw [upd_ne (ne_of_none h hp)]; exact h
  · by_cases e : a = p
    · rw [e]; exact hp
    · rw [upd_ne e, h] at h'
      cases h'
theorem box_add {F H : Hp} {b : Bx} {p : Addr} {o : HO} (q : BoxRep bo F H b) (s : Same F H) (hp : H p = none) : BoxRep bo (upd F p o) (upd H p o) b := fun β e => by
  obtain ⟨q1, q2⟩ := q β e
  have n := ne_of_none q2 hp
  exact ⟨by rw [upd_ne n]; exact q1, by rw [upd_ne n]; exact q2⟩
theorem ts_raise {ci : Nat} {e : IE} : TS' bo F0 H0 cs φ (.raise ci (some e)) := by
  intro c X W fr s k h
  have h : okRaise c ci e s = true := h
  obtain ⟨v, e1, h⟩ := oB_some h
  obtain ⟨q, e2, h⟩ := oB_some h
  obtain ⟨x, e3, h⟩ := oB_some h
  obtain ⟨a, e4, h⟩ := oB_some h
  obtain ⟨p, qe1⟩ := vRaise_of e1
  have e5 := vCall_of e2
  rw [vName_of e3, v1_of e4] at e5
  simp only [Bool.and_eq_true, Bool.not_eq_true'] at h
  obtain ⟨⟨⟨⟨⟨⟨h1, h2⟩, h3⟩, h4⟩, h5⟩, h6⟩, h7⟩ := h
  rw [noS_of h1] at e5
  subst e5
  subst qe1
  unfold exOk at h2
  obtain ⟨y, hy, h2⟩ := List.any_eq_true.mp h2
  rw [Bool.and_eq_true, decide_eq_true_eq, beq_iff_eq] at h2
  obtain ⟨n1, n2, bm, fI, cc, ca, k', T, Th, hf, hb, hr, hd⟩ := k.k.exs y hy
  rw [h2.1] at T hd
  rw [h2.2] at T Th hf
  have he := (((so_all e).a (H0 := H0) (W := W) k.k h4 h5).1.ovf h6).n rfl
  refine PS.imp (ps_raise k.k.calm k.k.tk (pmk_err T hb hr (pa_cons he pa_nil (by first | rfl | (cases a <;> first | rfl | cases h7))) (gl_of k.k h3).1 hd (by first | rfl | (cases a <;> first | rfl | cases h7)))) fun D σ H ⟨e', b, F, p', x', h⟩ => ?_
  refine ⟨e', b, F, p', fin_out p' x' h fun d b1 v F1 H1 p1 y1 z1 r hh => ?_⟩
  refine ⟨v, rfl, fun dd hdd => ?_⟩
  have hh : ∀ σ dd F H, Pre bo H0 σ H e' b1 F → Ext bo F0 H0 F H → ExcRep cs F H dd ci (some d) → W (.ref (cs.ad ci)) dd σ H := hh
  have xa := ext_hp (bo := bo) (o := .xd [(y.2.2.1, v)]) p1.sub hdd
  have ba := box_hp (o := .xd [(y.2.2.1, v)]) p1.box hdd
  refine hh σ (some dd) F1 _ (p1.step xa ba) (z1.trans xa ba) ⟨dd, v, rfl, ?_, r⟩
  rw [hf]
  exact upd_same
theorem Ext.re {bo : Option Addr} {F0 H0 F H F' H' : Hp} (x : Ext bo F0 H0 F H) (y : Ext bo F H0 F' H') : Ext bo F0 H0 F' H' := by
  refine ⟨x.sf.trans y.sf, y.sub, y.keep, fun a o h h' => ?_⟩
  cases e : F a with
  | none => exact y.new a o e h'
  | some u => exact x.new a u h e
theorem ts_try {i ci j : Nat} {t : Str} {body : IS} (hb : ∀ F0, TB' bo F0 H0 cs φ body) : TS' bo F0 H0 cs φ (.tryx i body ci j t) := by
  intro c X W fr s k h
  have h : okTry c i (fun b => okB body c fr b) ci j t s = true := h
  obtain ⟨q, e1, h⟩ := oB_some h
  obtain ⟨ps, qe1⟩ := vTry_of e1
  obtain ⟨body', ⟨xn, np⟩, n, su, ph⟩ := q
  try dsimp only at qe1 h
  subst qe1
  have h : (okB body c fr body' && (c.exs.any fun q => decide (q.1 = xn) && q.2.1 == ci && okSu c i j t n q.2.2.1 q.2.2.2 su) && (tgOk c i n && locOk c n && nmOk c i n) && (i != j) && glOk c xn) = true := h
  simp only [Bool.and_eq_true] at h
  obtain ⟨⟨⟨⟨h1, h2⟩, ⟨h3, h3l⟩, h3n⟩, h4⟩, h5⟩ := h
  obtain ⟨y, hy, h2⟩ := List.any_eq_true.mp h2
  rw [Bool.and_eq_true, Bool.and_eq_true, decide_eq_true_eq, beq_iff_eq] at h2
  obtain ⟨⟨h2a, h2b⟩, h2c⟩ := h2
  obtain ⟨n1, n2, bm, fI, cc, ca, k', T, Th, hf, hbe, hr, hd⟩ := k.k.exs y hy
  rw [h2a] at T hd
  rw [h2b] at T Th hf
  obtain ⟨xn', cx, f, B⟩ := y
  try dsimp only at h2a h2b h2c T Th hf hbe hd
  -- the suite
  obtain ⟨st, u1, h⟩ := oB_some h2c
  obtain ⟨tg, v, p, u2, h⟩ := asg1_of h
  obtain ⟨x, u3, h⟩ := oB_some h
  obtain ⟨es, u4, h⟩ := oB_some h
  obtain ⟨w, u5, h⟩ := oB_some h
  obtain ⟨s', u6, h⟩ := oB_some h
  obtain ⟨a, u7, h⟩ := oB_some h
  obtain ⟨m1, u8, h⟩ := oB_some h
  obtain ⟨cq, u9, h⟩ := oB_some h
  obtain ⟨g, u10, h⟩ := oB_some h
  obtain ⟨ys, u11, h⟩ := oB_some h
  obtain ⟨m2, u12, h⟩ := oB_some h
  obtain ⟨b', u13, h⟩ := oB_some h
  simp only [Bool.and_eq_true, decide_eq_true_eq] at h
  obtain ⟨⟨⟨⟨⟨⟨⟨⟨⟨⟨w1, w2⟩, w3⟩, w4⟩, w5⟩, w6⟩, w7⟩, w8, w8l⟩, w9⟩, w10⟩, w11⟩ := h
  obtain ⟨pl, z4⟩ := vLst_of u4
  obtain ⟨ks, pc, z6⟩ := vStr_of u6
  have z7 := vAttr_of u7
  have z9 := vCall_of u9
  rw [vName_of u8, w3, w4] at z7
  rw [vName_of u10, v2_of u11, vName_of u12, vName_of u13, w5, w6, w7, noS_of w1] at z9
  have z5 := v3_of u5
  rw [z6, z7, z9, w2] at z5
  rw [z5] at z4
  rw [v1_of u1]
  rw [vName_of u3, z4] at u2
  subst u2
  obtain ⟨hi, hil, hi0⟩ := tgS_of k.k h3 h3l
  obtain ⟨hj, hjl, hj0⟩ := tgS_of k.k w8 w8l
  have nmi := nm_of k.k h3n
  obtain ⟨gi1, gi2⟩ := bl_of k.k w9
  obtain ⟨gb1, gb2⟩ := bl_of k.k w10
  have bb : bootBuiltins (B : Str) = some (.type B) ∧ (B : Str) ≠ "__name__" ∧ ((B : Str) == ("__debug__" : Str)) = false := by
    rw [Bool.or_eq_true, decide_eq_true_eq, decide_eq_true_eq] at w11
    rcases w11 with rfl | rfl
    · exact ⟨by decide +kernel, by decide, by decide⟩
    · exact ⟨by decide +kernel, by decide, by decide⟩
  obtain ⟨gx, gxd⟩ := gl_of k.k h5
  refine PS.imp (ps_try_as (X := X) (i := i) (pos := ps) (pos' := ph) (np := np) (body := body') (c := .ref (cs.ad ci)) (tb := fun W' D σ H => ∃ F1, liftS bo F1 H0 cs W' fr (ex φ body) D σ H) (ts := fun a cls d D σ H => (∃ σ0 : L2.St, σ = σ0.set i (some (.ref a))) ∧ cls = .ref (cs.ad ci) ∧ ∃ (dd : Addr) (v : V), d = some dd ∧ H dd = some (.xd [(f, v)]) ∧ ∀ p, H p = none → D.nx (σ.set j (some (.ref p))) (upd H p (.lst [.str t, v, .bl true]))) (Wout := W) k.stk k.frm k.k.nd hi hil ⟨gx, gxd, .inl T.gC⟩ k.k.tk
    (fun W' pn xe tk hp => ⟨fun pins s σ H D I ⟨F1, q⟩ => ((hb F1 (X := X.tr pn xe) (W := W') (fr := fr) ⟨{ k.k with tk := tk }, k.kind, hp, k.stk, k.frm⟩ h1)).run pins s σ H D I q⟩)
    (fun a oe cls d pn hz hfl => by
      by_cases hcl : cls = .ref (cs.ad ci)
      · subst hcl
        refine ⟨fun pins s σ H D I ⟨⟨σ0, hσ⟩, h2⟩ => (pss_su T Th hz hfl k.k.nd hi (.inl hil) nmi.3 nmi.4 hj hjl gi1 gi2 gb1 gb2 bb.1 bb.2.1 bb.2.2 rfl (swC rfl)).run pins s σ H D I ⟨rfl, ?_, h2.2⟩⟩
        have hlen : σ.length = X.N.length := I.len
        have hlt : i < X.N.length := (List.getElem?_eq_some_iff.mp hi).1
        rw [hσ, List.length_set] at hlen
        rw [hσ, List.getElem?_set_self (by omega)]
      · exact ⟨fun pins s σ H D I h => absurd h.2.1 hcl⟩)) fun D σ H ⟨e, b, F, p0, x0, h⟩ => ?_
  refine ⟨F, e, b, F, p0, ⟨Same.refl _, p0.sub, x0.keep, fun a o h1 h2 => by rw [h1] at h2; cases h2⟩, ?_⟩
  have h : finS bo F0 H0 cs W fr D F (match ex φ body e b with
    | .xx e1 c' (some d) b1 => if c' = ci then .nx (((e1.set i .no).set j (.v (.list [.str t, d, .bool true]))).set i .no) b1 else .no
    | .xx _ _ none _ => .no
    | .nx e1 b1 => .nx e1 b1
    | .rt d b1 => .rt d b1
    | .no => .no) := h
  cases qx : ex φ body e b with
  | nx e1 b1 =>
    rw [qx] at h
    exact fun σ F' H' p1 x1 z1 => h σ F' H' p1 (x0.re x1) z1
  | rt d b1 =>
    rw [qx] at h
    exact fun v F' H' x1 z1 r => h v F' H' (x0.re x1) z1 r
  | no =>
    rw [qx] at h
    exact h.elim
  | xx e1 c' dd b1 =>
    rw [qx] at h
    cases dd with
    | none => exact h.elim
    | some d =>
      have h6 : finS bo F0 H0 cs W fr D F (if c' = ci then .nx (((e1.set i .no).set j (.v (.list [.str t, d, .bool true]))).set i .no) b1 else .no) := h
      by_cases qc : c' = ci
      · rw [if_pos qc] at h6
        clear h
        subst qc
        intro σ1 dx F1 H1 p1 x1 r
        obtain ⟨da, v, rfl, hda, rv⟩ := r
        refine ⟨true, Th.te, fun _ a ha => ?_, fun z => nomatch z⟩
        refine ⟨⟨σ1, rfl⟩, rfl, da, v, rfl, by rw [← hf]; exact hda, fun pn hpn => ?_⟩
        have xa := ext_add (bo := bo) (o := .lst [.str t, v, .bl true]) p1.sub hpn
        have ba := box_add (o := .lst [.str t, v, .bl true]) p1.box p1.sub hpn
        have p2 : Pre bo H0 (σ1.set i (some (.ref a))) H1 (e1.set i .no) b1 F1 := ⟨p1.sub, p1.env.set_no, p1.box, fun β hβ => by rw [List.getElem?_set_ne (hi0 (by rw [hβ]; exact fun z => nomatch z))]; exact p1.bs β hβ, p1.al⟩
        have p3 := (p2.step xa ba).set_v (i := j) (v := .ref pn) (d := .list [.str t, d, .bool true]) (.lst upd_same (.cons (.str t) (.cons (rv.mono xa.sf) (.cons (.bl true) .nil)))) hj0
        have p4 : Pre bo H0 (((σ1.set i (some (.ref a))).set j (some (.ref pn))).set i none) (upd H1 pn (.lst [.str t, v, .bl true])) (((e1.set i .no).set j (.v (.list [.str t, d, .bool true]))).set i .no) b1 (upd F1 pn (.lst [.str t, v, .bl true])) :=
          ⟨p3.sub, p3.env.set_no, p3.box, fun β hβ => by rw [List.getElem?_set_ne (hi0 (by rw [hβ]; exact fun z => nomatch z))]; exact p3.bs β hβ, p3.al⟩
        have x2 := x1.trans xa ba
        exact h6 _ _ _ p4 (x0.re x2) (x2.sf)
      · rw [if_neg qc] at h6
        exact h6.elim
/-- all statements, whatever was frozen ahead -/
theorem st_allA (is : IS) : ∀ F0 H0, TS' bo F0 H0 cs φ is ∧ TB' bo F0 H0 cs φ is := by
  induction is with
  | nop => exact fun _ _ => ⟨ts_nop, tb_nop⟩
  | seq a b ha hb => exact fun F0 H0 => ⟨bad_s fun _ _ _ => rfl, tb_seq (ha F0 H0).1 (hb F0 H0).2⟩
  | set i ow e => exact fun _ _ => ⟨ts_set, bad_b fun _ _ _ => rfl⟩
  | par2 i oi j oj a b => exact fun _ _ => ⟨ts_par2, bad_b fun _ _ _ => rfl⟩
  | par3 i oi j oj l ol a b d => exact fun _ _ => ⟨ts_par3, bad_b fun _ _ _ => rfl⟩
  | sett tg e => exact fun _ _ => ⟨ts_sett, bad_b fun _ _ _ => rfl⟩
  | app i e => exact fun _ _ => ⟨ts_app, bad_b fun _ _ _ => rfl⟩
  | ext i e => exact fun _ _ => ⟨ts_ext, bad_b fun _ _ _ => rfl⟩
  | pop j i e => exact fun _ _ => ⟨bad_s fun _ _ _ => rfl, bad_b fun _ _ _ => rfl⟩
  | stix i k e => exact fun _ _ => ⟨ts_stix, bad_b fun _ _ _ => rfl⟩
  | bset j e => exact fun _ _ => ⟨ts_bset, bad_b fun _ _ _ => rfl⟩
  | augx i k op e => exact fun _ _ => ⟨ts_augx, bad_b fun _ _ _ => rfl⟩
  | aug i op e => exact fun _ _ => ⟨ts_aug, bad_b fun _ _ _ => rfl⟩
  | frz i => exact fun _ _ => ⟨bad_s fun _ _ _ => rfl, bad_b fun _ _ _ => rfl⟩
  | forr tg it body hb => exact fun F0 H0 => ⟨ts_for (hb F0 H0).2, bad_b fun _ _ _ => rfl⟩
  | whil t body hb => exact fun F0 H0 => ⟨ts_while (hb F0 H0).2, bad_b fun _ _ _ => rfl⟩
  | iff t a b ha hb => exact fun F0 H0 => ⟨ts_if (ha F0 H0).2 (hb F0 H0).2, bad_b fun _ _ _ => rfl⟩
  | ret e => exact fun _ _ => ⟨ts_ret, bad_b fun _ _ _ => rfl⟩
  | retn => exact fun _ _ => ⟨ts_retN, bad_b fun _ _ _ => rfl⟩
  | drop e => exact fun _ _ => ⟨ts_drop, bad_b fun _ _ _ => rfl⟩
  | raise c e =>
    cases e with
    | none => exact fun _ _ => ⟨bad_s fun _ _ _ => rfl, bad_b fun _ _ _ => rfl⟩
    | some e => exact fun _ _ => ⟨ts_raise, bad_b fun _ _ _ => rfl⟩
  | pots f q p r it bk => exact fun _ _ => ⟨bad_s fun _ _ _ => rfl, tb_pots⟩
  | tryx i body ci j t hb => exact fun F0 H0 => ⟨ts_try fun F1 => (hb F1 H0).2, bad_b fun _ _ _ => rfl⟩
theorem st_all (is : IS) : TS' bo F0 H0 cs φ is ∧ TB' bo F0 H0 cs φ is := st_allA is F0 H0
end
end Dv
/-! text DK -/
set_option Elab.async false
set_option linter.all false
set_option maxRecDepth 100000
set_option maxHeartbeats 4000000
namespace Dv
open PySem PySem.Spec L2

/-! ### a def's slots at its start -/
theorem slots_rep {bo : Option Addr} {H0 F H : Hp} : ∀ {ws : List V} {ds : List P}, RpA F ws ds → ∀ (m m' : Nat) (i : Nat) (s : Sl), (ds.map Sl.v ++ List.replicate m Sl.no)[i]? = some s → SlRep bo H0 F H ((((ws.map some ++ List.replicate m' none : List (Option V))[i]?)).getD none) s
  | _, _, .nil, m, m', i, s, h => by
    rw [List.map_nil, List.nil_append, List.getElem?_replicate] at h
    split at h
    · cases h
      trivial
    · cases h
  | _, _, .cons r t, m, m', 0, s, h => by
    simp at h
    subst h
    exact ⟨_, rfl, r⟩
  | _, _, .cons (vs := vs) (ds := ds) r t, m, m', i + 1, s, h => by
    have := slots_rep (bo := bo) (H0 := H0) (H := H) t m m' i s (by simpa using h)
    simpa using this
theorem slots_no : ∀ (ds : List P) (m i : Nat) (d : P), (ds.map Sl.v ++ List.replicate m Sl.no)[i]? ≠ some (.o d)
  | [], m, i, d => by
    rw [List.map_nil, List.nil_append, List.getElem?_replicate]
    intro h
    split at h <;> cases h
  | x :: xs, m, 0, d => by simp
  | x :: xs, m, i + 1, d => by
    have := slots_no xs m i d
    simpa using this
theorem start_env {bo : Option Addr} {F H : Hp} {N : List Str} {bx : Bool} {n : Nat} {vs ws : List V} {ds : List P} (ra : RpA F ws ds) (h1 : bx = true → ∃ β, bo = some β ∧ vs = .ref β :: ws) (h2 : bx = false → bo = none ∧ vs = ws) (hn : n = N.length) (hl : vs.length ≤ n) :
    EnvRep bo H F H (L2.start N vs) (startE bx n ds) := by
  have l := ra.length
  cases bx with
  | false =>
    obtain ⟨_, rfl⟩ := h2 rfl
    refine ⟨?_, fun i s h => slots_rep ra _ _ i s (by simpa [startE] using h), fun i j a di dj _ h => absurd h ?_⟩
    · unfold startE L2.start
      simp
      omega
    · have := slots_no ds (n - ds.length - 0) i di
      unfold startE
      simpa using this
  | true =>
    obtain ⟨β, _, rfl⟩ := h1 rfl
    refine ⟨?_, fun i s h => ?_, fun i j a di dj _ h => absurd h ?_⟩
    · unfold startE L2.start
      simp at hl ⊢
      omega
    · cases i with
      | zero =>
        unfold startE at h
        simp at h
        subst h
        trivial
      | succ i =>
        unfold startE at h
        have := slots_rep (bo := bo) (H0 := H) (H := H) ra (n - ds.length - 1) (N.length - (ws.length + 1)) i s (by simpa using h)
        unfold L2.start
        simpa using this
    · unfold startE
      cases i with
      | zero => simp
      | succ i =>
        have := slots_no ds (n - ds.length - 1) i di
        simpa using this

/-- an own error behind the top -/
def ExcTop (Pr : Program) (K : PySem.W.Frag) (mg : Str → Option Value) (cs : Cls') (xn : Str) (c : Nat) (f : Str) (B : String) : Prop :=
  ∃ (newId initId : String) (bm : List Value) (fI cc ca : Addr), ErrT Pr K mg xn f B newId initId bm (cs.ad c) fI cc ca ∧ ErrH K (cs.ad c) B ∧ cs.fld c = f ∧ BindsErr f ∧ (xn == ("__debug__" : Str)) = false
/-! ### a def from its code -/
section
variable {Pr : Program} {w : World} {K : PySem.W.Frag} {mg : Str → Option Value} {base : Heap} {cs : Cls'}
theorem fn_code {x : Str} {st : Stmt} {f : Addr} {fd : FuncData} {N ps : List Str} {k : Nat} {fn : Fn} {c : Ct} {φ : Phi} (F : Fun K x x st f fd) (S : FnScope N ps (defScope st))
    (c1 : c.sc = defScope st) (c2 : c.N = N) (c3 : c.blk = none) (c4 : c.bx = fn.bx) (hs : fn.slots = N.length) (hpl : ps.length ≤ N.length) (ok : okB fn.body c fn.fr (defBody st) = true) (blt : ∀ x ∈ c.blt, mg x = none)
    (con : ∀ q ∈ c.con, ∃ v u, mg q.1 = some u ∧ RelV v u ∧ Flt v q.2)
    (fns : ∀ g q, c.fns[g]? = some q → ∃ (fa : Addr) (fd : FuncData) (ps : List Str), mg q.1 = some (.ref fa) ∧ PySem.W.keepIn K (.ref fa) = true ∧ FnOk Pr w K mg base (L2.CX Pr w) k fa fd ps (spOf cs q.2.1 q.2.2.1 q.2.2.2 (φ g)) ∧ Binds K fd ps [])
    (kws : ∀ kw ∈ c.kws, ∀ q, c.fns[kw.1]? = some q → ∃ (fa : Addr) (fd : FuncData) (ps : List Str), mg q.1 = some (.ref fa) ∧ PySem.W.keepIn K (.ref fa) = true ∧ FnOk Pr w K mg base (L2.CX Pr w) k fa fd ps (spOf cs false q.2.2.1 q.2.2.2 (φ kw.1)) ∧ KwB fd ps kw.2.1 kw.2.2.1 kw.2.2.2)
    (exs : ∀ q ∈ c.exs, ExcTop Pr K mg cs q.1 q.2.1 q.2.2.1 q.2.2.2) :
    FnOk Pr w K mg base (L2.CX Pr w) (k + 1) f fd ps (spOf cs fn.bx fn.fr ps.length (run φ fn)) := by
  refine F.okX S (fun vs H Q E h => h.1) (fun cdv A outer s H vs Q E hr h => ?_)
  obtain ⟨hl, bo, F0, b, ws, ds, h1, h2, sub, box, ra, hf⟩ := h
  have hbx : c.bx = true ↔ bo ≠ none := by
    rw [c4]
    cases e : fn.bx with
    | false =>
      obtain ⟨z, _⟩ := h2 e
      exact ⟨(fun q => nomatch q), fun q => absurd z q⟩
    | true =>
      obtain ⟨β, z, _⟩ := h1 e
      exact ⟨(fun _ q => by rw [z] at q; cases q), fun _ => rfl⟩
  have ck : CokS c (cxOf (L2.CX Pr w) Pr w K mg base N x (defScope st) f cdv A outer s H E) bo cs (fun cls dd _ H' => E cls dd H') φ :=
    { k := { calm := rfl, N := c2.symm, nd := S.nd, sc := c1.symm, fn := (fun y => by unfold fnOk; rw [c3]; rfl), bx := hbx, hu := (by have := hr.un; show (A.deeper _).units + 70 < _; omega), blt := blt, con := con,
             fns := (fun g q hq => by
               obtain ⟨fa, fd, ps, m1, m2, m3, m4⟩ := fns g q hq
               exact ⟨fa, fd, ps, k, m1, m2, m3, m4, hr⟩),
             kws := (fun kw hk q hq => by
               obtain ⟨fa, fd, ps, m1, m2, m3, m4⟩ := kws kw hk q hq
               exact ⟨fa, fd, ps, k, m1, m2, m3, m4, hr⟩),
             exs := (fun q hq => by
               obtain ⟨n1, n2, bm, fI, cc, ca, m1, m2, m3, m4, m5⟩ := exs q hq
               exact ⟨n1, n2, bm, fI, cc, ca, k, m1, m2, m3, m4, hr, m5⟩),
             tk := takes_of rfl rfl rfl rfl }, kind := S.kind, hp := passes_of rfl, stk := rfl, frm := rfl }
  have T := (st_all (bo := bo) (cs := cs) (φ := φ) (F0 := F0) (H0 := H) fn.body).2 ck ok
  refine ⟨_, T, startE fn.bx fn.slots ds, b, F0, ⟨sub, start_env ra h1 h2 hs (by rw [hl, hs]; exact hpl), box, fun β hβ => ?_, fun a z => z⟩, Ext.refl sub, ?_⟩
  · cases e : fn.bx with
    | false =>
      obtain ⟨z, _⟩ := h2 e
      rw [z] at hβ
      cases hβ
    | true =>
      obtain ⟨γ, z, rfl⟩ := h1 e
      rw [z] at hβ
      cases hβ
      rfl
  · unfold run at hf
    split at hf
    · cases q : ex φ fn.body (startE fn.bx fn.slots ds) b with
      | nx e b1 =>
        rw [q] at hf
        exact fun σ F1 H1 p1 x1 _ => hf .non F1 H1 x1 p1.box lR_non
      | rt d b1 =>
        rw [q] at hf
        exact hf
      | xx e c d b1 =>
        rw [q] at hf
        exact fun σ dd F1 H1 p1 x1 r => hf dd F1 H1 x1 p1.box r
      | no =>
        rw [q] at hf
        exact hf.elim
    · exact hf.elim

/-! ### all defs of a text -/
def Txt'.ct (t : Txt') (d : DefD) : Ct := { sc := defScope d.st, N := d.N, blk := none, bx := d.fn.bx, blt := t.blt, con := t.con, fns := fnsOf t.DL, kws := t.kws, exs := t.exs }
def scB (N ps : List Str) (sc : Scope) : Bool :=
  decide (sc.kind = .function) && !sc.isCoroutine && !sc.isGenerator && decide N.Nodup && decide (N.take ps.length = ps) && (ps.all fun x => decide (sc.names.lookup x = some .local) || decide (sc.names.lookup x = some .cell)) && (sc.names.all fun y => !decide (y.2 = .free))
theorem scB_of {N ps : List Str} {sc : Scope} (h : scB N ps sc = true) : FnScope N ps sc := by
  unfold scB at h
  simp only [Bool.and_eq_true, Bool.not_eq_true', decide_eq_true_eq, List.all_eq_true, Bool.or_eq_true, decide_eq_false_iff_not] at h
  obtain ⟨⟨⟨⟨⟨⟨h1, h2⟩, h3⟩, h4⟩, h5⟩, h6⟩, h7⟩ := h
  exact ⟨h1, h2, h3, h4, h5, h6, h7⟩
def okDef (t : Txt') (d : DefD) : Bool := scB d.N d.ps (defScope d.st) && decide (d.fn.slots = d.N.length) && decide (d.ps.length ≤ d.N.length) && okB d.fn.body (t.ct d) d.fn.fr (defBody d.st)
/-- what stands behind the top -/
structure AtTop (Pr : Program) (cs : Cls') (K : PySem.W.Frag) (mg : Str → Option Value) (t : Txt') (fa : Nat → Addr) (fd : Nat → FuncData) : Prop where
  fn : ∀ f d, t.DL[f]? = some d → Fun K d.x d.x d.st (fa f) (fd f) ∧ Binds K (fd f) d.ps [] ∧ mg d.x = some (.ref (fa f))
  blt : ∀ x ∈ t.blt, mg x = none
  con : ∀ q ∈ t.con, ∃ v u, mg q.1 = some u ∧ RelV v u ∧ Flt v q.2
  kws : ∀ kw ∈ t.kws, ∀ d, t.DL[kw.1]? = some d → d.fn.bx = false ∧ KwB (fd kw.1) d.ps kw.2.1 kw.2.2.1 kw.2.2.2
  exs : ∀ q ∈ t.exs, ExcTop Pr K mg cs q.1 q.2.1 q.2.2.1 q.2.2.2
theorem fnsOf_get {DL : List DefD} {g : Nat} {q : Str × Bool × Bool × Nat} (h : (fnsOf DL)[g]? = some q) : ∃ d, DL[g]? = some d ∧ q = (d.x, d.fn.bx, d.fn.fr, d.ps.length) := by
  unfold fnsOf at h
  rw [List.getElem?_map] at h
  cases e : DL[g]? with
  | none =>
    rw [e] at h
    cases h
  | some d =>
    rw [e] at h
    cases h
    exact ⟨d, rfl, rfl⟩
theorem all_ok {t : Txt'} {fa : Nat → Addr} {fd : Nat → FuncData} (hall : t.DL.all (okDef t) = true) (T : AtTop Pr cs K mg t fa fd) :
    ∀ (k f : Nat) (d : DefD), t.DL[f]? = some d → FnOk Pr w K mg base (L2.CX Pr w) k (fa f) (fd f) d.ps (spOf cs d.fn.bx d.fn.fr d.ps.length (fnN (tblOf t.DL) k f))
  | 0, f, d, hd => by
    have no : ∀ vs H Q E, ¬ spOf cs d.fn.bx d.fn.fr d.ps.length (fnN (tblOf t.DL) 0 f) vs H Q E := fun vs H Q E h => by
      obtain ⟨_, bo, F, b, ws, ds, _, _, _, _, _, h⟩ := h
      exact h.elim
    exact ⟨fun vs H Q E h => absurd h (no vs H Q E), fun A outer s H args us vs Q E _ _ _ _ h => absurd h (no vs H Q E)⟩
  | k + 1, f, d, hd => by
    have hok := List.all_eq_true.mp hall d (List.mem_of_getElem? hd)
    unfold okDef at hok
    rw [Bool.and_eq_true, Bool.and_eq_true, Bool.and_eq_true] at hok
    obtain ⟨⟨⟨o1, o2⟩, o3⟩, o4⟩ := hok
    have e : fnN (tblOf t.DL) (k + 1) f = fun as b => run (fnN (tblOf t.DL) k) d.fn as b := by
      funext as b
      show (match tblOf t.DL f with | some (.code f) => run (fnN (tblOf t.DL) k) f as b | some (.prim g) => g as b | none => .no) = _
      unfold tblOf
      rw [hd] <;> rfl
    rw [e]
    obtain ⟨F, _, _⟩ := T.fn f d hd
    refine fn_code (k := k) (c := t.ct d) F (scB_of o1) rfl rfl rfl rfl (of_decide_eq_true o2) (of_decide_eq_true o3) o4 T.blt T.con (fun g q hq => ?_) (fun kw hk q hq => ?_) T.exs
    · obtain ⟨d', hd', rfl⟩ := fnsOf_get hq
      obtain ⟨F', B', m'⟩ := T.fn g d' hd'
      exact ⟨_, _, _, m', F'.kp, all_ok hall T k g d' hd', B'⟩
    · obtain ⟨d', hd', rfl⟩ := fnsOf_get hq
      obtain ⟨F', B', m'⟩ := T.fn _ d' hd'
      obtain ⟨b1, b2⟩ := T.kws kw hk d' hd'
      have h := all_ok hall T k kw.1 d' hd'
      rw [b1] at h
      exact ⟨_, _, _, m', F'.kp, h, b2⟩
end
end Dv
/-! text DL -/
set_option Elab.async false
set_option linter.all false
set_option maxRecDepth 100000
set_option maxHeartbeats 4000000
namespace Dv
open PySem PySem.Spec L2

/-! ### the first numbers of the script -/
def spCells (K : PySem.W.Frag) : Sp := fun vs H Q _ => ∃ (a : Addr) (ns : List Int) (top : Int), vs = [.ref a, .int top] ∧ SqL K H a (ns.map V.int) ∧ ns.length ≤ 63 ∧ 0 < top ∧ top ≤ 3 ∧
  ∀ (xs : List Int) (p : Addr) (H' : Hp), 0 < xs.length → xs.length ≤ 3 → Same H H' → H p = none → H' p = some (.lst (xs.map V.int)) → Q (.ref p) H'
theorem cutV_ints (ns : List Int) (lo hi : Option Int) : ∃ ms : List Int, cutV (ns.map V.int) lo hi = ms.map V.int := by
  refine ⟨(ns.drop (HT.sIx ns.length 0 lo)).take (HT.sIx ns.length ns.length hi - HT.sIx ns.length 0 lo), ?_⟩
  unfold cutV
  rw [List.map_take, List.map_drop, List.length_map]
theorem sIx_nat (n d : Nat) (i : Int) (h : 0 ≤ i) : HT.sIx n d (some i) = min i.toNat n := by
  unfold HT.sIx
  simp
  omega
theorem cut_top {ns : List Int} {top : Int} (h : 0 < top) : cutV (ns.map V.int) none (some top) = (ns.take top.toNat).map V.int := by
  unfold cutV
  rw [sIx_nat _ _ _ (by omega), List.length_map, List.map_take]
  have : HT.sIx ns.length 0 none = 0 := rfl
  rw [this, List.drop_zero, Nat.sub_zero]
  by_cases q : top.toNat ≤ ns.length
  · rw [Nat.min_eq_left q]
  · rw [Nat.min_eq_right (by omega), List.take_of_length_le (by simp), List.take_of_length_le (by simp; omega)]
theorem cut_rest {ns : List Int} {top : Int} (h : 0 < top) (hl : 0 < (cutV (ns.map V.int) (some top) (some 63)).length) : top.toNat < ns.length := by
  unfold cutV at hl
  rw [List.length_take, List.length_drop, sIx_nat _ 0 top (by omega), List.length_map] at hl
  omega
theorem orT_read {K : PySem.W.Frag} {Q : VK} {σ : L2.St} {H2 : Hp} {l : Addr} {ys : List Int} (hl : H2 l = some (.lst (ys.map V.int)))
    (key : ∀ (xs : List Int) (p : Addr) (H1 : Hp), 0 < xs.length → (ys ≠ [] → xs = ys) → (ys = [] → xs = [0]) → Same H2 H1 → (p = l ∨ H2 p = none) → H1 p = some (.lst (xs.map V.int)) → Q (.ref p) H1) :
    ∃ k, TruV K (.ref l) H2 k ∧ if k = true then Q (.ref l) H2 else tLst (tCons (tC (.int 0)) tNil) σ H2 Q := by
  refine ⟨_, .inl ⟨_, SqL.of hl, rfl⟩, ?_⟩
  cases ys with
  | nil =>
    refine iteF ⟨(by show 1 ≤ sizeLine; decide), fun p hp => ?_⟩
    exact key [0] p _ (by simp) (fun z => absurd rfl z) (fun _ => rfl) (fun b o h => by rw [upd_ne (ne_of_none h hp)]; exact h) (.inr hp) upd_same
  | cons y ys => exact iteT (key (y :: ys) l H2 (by simp) (fun _ => rfl) (fun z => nomatch z) (Same.refl _) (.inl rfl) hl)
section
variable {Pr : Program} {w : World} {K : PySem.W.Frag} {mg : Str → Option Value} {base : Heap}
theorem cells_ok {st : Stmt} {f : Addr} {fd : FuncData} {s t c k e a : Str} {p1 p2 p3 p4 p5 p6 p7 p8 p9 p10 p11 p12 p13 p14 p15 p16 p17 p18 p19 p20 p21 p22 p23 p24 p25 p26 p27 p28 p29 p30 p31 p32 p33 p34 p35 p36 p37 p38 p39 p40 p41 p42 p43 p44 : Pos} {k1 k2 k3 k4 : Nat}
    (F : Fun K "_law_cells" "_law_cells" st f fd) (S : FnScope [s, t, c, k, e, a] [s, t] (defScope st))
    (hb : defBody st = [.Assign [.Name c p1] (.BoolOp .Or [.Call (.Name "list" p2) [.Subscript (.Name s p3) (.Slice none (some (.Name t p4)) none p5) p6] [] p7, .List [.Constant (.int 0) k1 p8] p9] p10) p11,
      .For (.Tuple [.Name k p12, .Name e p13] k2 p14) (.Call (.Name "enumerate" p15) [.Subscript (.Name s p16) (.Slice (some (.Name t p17)) (some (.Constant (.int 63) k3 p18)) none p19) p20] [] p21)
        [.Assign [.Name a p22] (.BinOp (.Call (.Name "int" p23) [.Name k p24] [] p25) .Mod (.Name t p26) p27) p28,
         .Assign [.Subscript (.Name c p29) (.Name a p30) p31] (.BinOp (.Subscript (.Name c p32) (.Name a p33) p34) .Add (.BinOp (.Name e p35) .Mult (.BinOp (.Name k p36) .Add (.Constant (.int 2) k4 p37) p38) p39) p40) p41] [] p42,
      .Return (some (.Name c p43)) p44])
    (ls : (defScope st).names.lookup s = some .local) (lt : (defScope st).names.lookup t = some .local) (lc : (defScope st).names.lookup c = some .local) (lk : (defScope st).names.lookup k = some .local) (le : (defScope st).names.lookup e = some .local) (la : (defScope st).names.lookup a = some .local)
    (gl : (defScope st).names.lookup ("list" : Str) = some .globalImplicit) (ge : (defScope st).names.lookup ("enumerate" : Str) = some .globalImplicit) (gi : (defScope st).names.lookup ("int" : Str) = some .globalImplicit)
    (ml : mg "list" = none) (me : mg "enumerate" = none) (mi : mg "int" = none)
    (hd : ∀ x ∈ [s, t, c, k, e, a], (x == ("__debug__" : Str)) = false ∧ (x == ("__classdict__" : Str)) = false) :
    FnOk Pr w K mg base (L2.CX Pr w) 1 f fd [s, t] (spCells K) := by
  refine F.okX S (fun vs H Q E h => ?_) (fun cdv A outer s0 H vs Q E hr h => ?_)
  · obtain ⟨a, ns, top, rfl, _⟩ := h
    rfl
  obtain ⟨al, ns, top, rfl, hS, h63, ht0, ht3, q⟩ := h
  have vr : ∀ {i : Nat} {x : Str} {pos : Pos}, [s, t, c, k, e, a][i]? = some x → (defScope st).names.lookup x = some .local → PE (cxOf (L2.CX Pr w) Pr w K mg base [s, t, c, k, e, a] "_law_cells" (defScope st) f cdv A outer s0 H E) (.Name x pos) (tVar i) := fun {i x pos} h1 h2 =>
    pe_var h1 (.inl h2) (hd x (List.mem_of_getElem? h1)).1 (hd x (List.mem_of_getElem? h1)).2
  have hp : PassesOwn (model Pr w) (cxOf (L2.CX Pr w) Pr w K mg base [s, t, c, k, e, a] "_law_cells" (defScope st) f cdv A outer s0 H E).A (cxOf (L2.CX Pr w) Pr w K mg base [s, t, c, k, e, a] "_law_cells" (defScope st) f cdv A outer s0 H E).env (cxOf (L2.CX Pr w) Pr w K mg base [s, t, c, k, e, a] "_law_cells" (defScope st) f cdv A outer s0 H E).xe := passes_of rfl
  rw [hb]
  refine ⟨_, pss_cons (ps_set (i := 2) S.nd rfl (.inl lc) (pe_orT (pe_callTy call_list_of gl ml rfl (pa_cons (pe_slice sl_list (vr (i := 0) rfl ls) po_none (po_some (vr (i := 1) rfl lt))) pa_nil)) (pe_one (pe_lst (pa_cons pe_int pa_nil)))))
    (pss_cons (ps_for hp rfl (pi_enum ge me (pa_cons (pe_slice sl_list (vr (i := 0) rfl ls) (po_some (vr (i := 1) rfl lt)) (po_some pe_int)) pa_nil)) (pg_tup rfl (pgs_cons (pg_name (i := 3) S.nd rfl (.inl lk)) (pgs_cons (pg_name (i := 4) S.nd rfl (.inl le)) pgs_nil)))
      (pss_cons (ps_set (i := 5) S.nd rfl (.inl la) (pe_op op_mod (pe_callTy call_int1 gi mi rfl (pa_cons (vr (i := 3) rfl lk) pa_nil)) (vr (i := 1) rfl lt)))
      (pss_one (ps_asg (pe_op op_add (pe_ix ix_list (vr (i := 2) rfl lc) (vr (i := 5) rfl la) (fun _ _ => rfl)) (pe_op op_mul (vr (i := 4) rfl le) (pe_op op_add (vr (i := 3) rfl lk) pe_int))) (pg_sub (vr (i := 2) rfl lc) (vr (i := 5) rfl la) set_list (fun _ => rfl)) rfl rfl (by rfl)))))
    (pss_one (ps_ret (vr (i := 2) rfl lc)))), ?_⟩
  refine ⟨_, rfl, _, rfl, top, rfl, al, _, rfl, hS, fun q1 hq1 => ⟨q1, _, rfl, .inl (SqL.of upd_same), fun l hl => ?_⟩⟩
  have ql : l ≠ q1 := fun z => by
    subst z
    rw [upd_same] at hl
    cases hl
  have s1 : Same H (upd (upd H q1 (.lst (cutV (ns.map V.int) none (some top)))) l (.lst (cutV (ns.map V.int) none (some top)))) := fun b o h => by
    rw [upd_ne (ne_of_none h (by rw [upd_ne ql] at hl; exact hl)), upd_ne (ne_of_none h hq1)]
    exact h
  refine orT_read (ys := ns.take top.toNat) (by rw [← cut_top ht0]; exact upd_same) fun xs p H1 x1 x2 x3 x4 x5 x6 => ?_
  have hpn : H p = none := by
    rcases x5 with x5 | x5
    · subst x5
      rw [upd_ne ql] at hl
      exact hl
    · cases e : H p with
      | none => rfl
      | some o =>
        rw [s1 p o e] at x5
        cases x5
  have sH : Same H H1 := s1.trans x4
  have xl : xs.length ≤ 3 ∧ (top.toNat < ns.length → xs.length = top.toNat) := by
    by_cases c : ns.take top.toNat = []
    · rw [x3 c]
      refine ⟨by simp, fun z => ?_⟩
      have := congrArg List.length c
      rw [List.length_take, List.length_nil] at this
      omega
    · rw [x2 c, List.length_take]
      omega
  refine ⟨_, rfl, _, rfl, top, rfl, 63, rfl, al, _, rfl, sH.seq hS, fun q2 hq2 => ⟨q2, _, rfl, SqL.of upd_same, ?_⟩⟩
  have pq : p ≠ q2 := ne_of_none x6 hq2
  have s2 : Same H1 (upd H1 q2 (.lst (cutV (ns.map V.int) (some top) (some 63)))) := fun b o h => by
    rw [upd_ne (ne_of_none h hq2)]
    exact h
  obtain ⟨ms, hms⟩ := cutV_ints ns (some top) (some 63)
  have hrest := fun z => cut_rest (ns := ns) ht0 z
  have hml : ms.length ≤ ns.length := by
    have := cutV_length (ns.map V.int) (some top) (some 63)
    rw [hms, List.length_map, List.length_map] at this
    exact this
  rw [hms] at hrest s2 ⊢
  rw [List.length_map] at hrest
  refine ⟨fun i m σ H' => m = ms.length - i ∧ i ≤ ms.length ∧ ∃ (ys : List Int) (kv ev av : Option V), σ = [some (.ref al), some (.int top), some (.ref p), kv, ev, av] ∧ ys.length = xs.length ∧ Same H H' ∧ H' p = some (.lst (ys.map V.int)) ∧ H' q2 = some (.lst (ms.map V.int)),
    ⟨ms.length, by simp, Nat.zero_le _, xs, none, none, none, rfl, rfl, sH.trans s2, by rw [upd_ne pq]; exact x6, upd_same⟩, ?_⟩
  rintro i m σ H' ⟨rfl, hi, ys, kv, ev, av, rfl, yl, yS, yp, yq⟩
  by_cases hlt : i < ms.length
  · refine .inr ⟨⟨_, _, SqL.of yq, by rw [List.getElem?_map, List.getElem?_eq_getElem hlt] <;> rfl⟩, fun σ2 H2 => i + 1 ≤ ms.length ∧ ∃ (ys : List Int) (kv ev av : Option V), σ2 = [some (.ref al), some (.int top), some (.ref p), kv, ev, av] ∧ ys.length = xs.length ∧ Same H H2 ∧ H2 p = some (.lst (ys.map V.int)) ∧ H2 q2 = some (.lst (ms.map V.int)),
      fun σ' H'' z => ⟨ms.length - (i + 1), by omega, rfl, z⟩, fun x H'' yld => ?_⟩
    obtain ⟨T, x0, rfl, hT, rfl, hx⟩ := yld
    have hx0 := hx _ (SqL.of yq)
    rw [List.getElem?_map, List.getElem?_eq_getElem hlt] at hx0
    have hx0 : some (V.int ms[i]) = some x0 := hx0
    cases hx0
    have sT : Same H' (upd H' T (.tup [.int (i : Nat), .int ms[i]])) := fun b o h => by
      rw [upd_ne (ne_of_none h hT)]
      exact h
    refine ⟨T, _, rfl, SqT.of upd_same, rfl, _, _, rfl, _, _, rfl, rfl, ?_⟩
    have he := xl.2 (hrest (by omega))
    have hm0 : 0 ≤ (i : Int) % top := Int.emod_nonneg _ (by omega)
    have hm1 : (i : Int) % top < top := Int.emod_lt_of_pos _ ht0
    have hix : L2.ixN (ys.map V.int).length ((i : Int) % top) = some ((i : Int) % top).toNat := by
      unfold L2.ixN
      rw [List.length_map, yl, he, if_pos hm0, if_pos (by omega)]
    have hj : ((i : Int) % top).toNat < ys.length := by omega
    have hat : L2.atI (ys.map V.int) ((i : Int) % top) = some (V.int ys[((i : Int) % top).toNat]) := by
      unfold L2.atI
      rw [hix]
      show (ys.map V.int)[((i : Int) % top).toNat]? = _
      rw [List.getElem?_map, List.getElem?_eq_getElem hj] <;> rfl
    refine ⟨_, rfl, .inl ⟨_, rfl, _, rfl, _, _, rfl, rfl, ht0, ?_⟩⟩
    refine ⟨_, rfl, _, rfl, p, _, _, _, rfl, rfl, SqL.of (sT _ _ yp), hat, _, rfl, _, rfl, _, _, rfl, rfl, _, _, rfl, rfl, .inr ⟨by omega, by have := h63; have := hml; omega⟩, _, _, rfl, rfl, _, rfl, _, rfl, p, _, _, _, rfl, rfl, sT _ _ yp, hix, ?_⟩
    have sP : Same H (upd (upd H' T (.tup [.int (i : Nat), .int ms[i]])) p (.lst ((ys.map V.int).set ((i : Int) % top).toNat (.int (ys[((i : Int) % top).toNat] + ms[i] * ((i : Int) + 2)))))) := fun b o h => by
      rw [upd_ne (ne_of_none h hpn)]
      exact (yS.trans sT) b o h
    refine ⟨hlt, ys.set ((i : Int) % top).toNat (ys[((i : Int) % top).toNat] + ms[i] * ((i : Int) + 2)), _, _, _, rfl, by rw [List.length_set, yl], sP, ?_, ?_⟩
    · rw [upd_same, List.map_set]
    · rw [upd_ne (fun z => pq z.symm)]
      exact sT _ _ yq
  · exact .inl ⟨⟨_, SqL.of yq, by rw [List.length_map]; omega⟩, _, rfl, q ys p H' (by omega) (by omega) yS hpn yp⟩
end
end Dv
/-! text DM -/
set_option Elab.async false
set_option linter.all false
set_option maxRecDepth 100000
set_option maxHeartbeats 4000000
namespace Dv
open PySem PySem.Spec L2

/-! ### law -/
def spLaw (K : PySem.W.Frag) : Sp := fun vs H Q _ => ∃ (a : Addr) (ns : List Int), vs = [.ref a] ∧ SqL K H a (ns.map V.int) ∧ ns.length ≤ 63 ∧ ∀ H', Q (.bl true) H'
def LawD.ct (l : LawD) (t : Txt') : Ct := { sc := defScope l.st, N := [l.s, l.c, l.k], blk := none, bx := false, blt := t.blt, con := t.con, fns := fnsOf t.DL, kws := t.kws, exs := t.exs }
def LawD.form (l : LawD) (hd last : Stmt) (p1 p2 p3 p4 p5 p6 p7 p8 p9 : Pos) (k1 k2 : Nat) (e : Expr) : List Stmt :=
  [.If e [.Return (some (.Constant (.bool false) k1 p1)) p2] [] p3, .Assign [.Name l.c p4] (.Call (.Name "_law_cells" p5) [.Name l.s p6, .Constant (.int l.top) k2 p7] [] p8) p9, last]
def LawD.ok (l : LawD) (t : Txt') : Bool := scB [l.s, l.c, l.k] [l.s] (defScope l.st) && decide ((defScope l.st).names.lookup l.s = some .local) && (decide ((defScope l.st).names.lookup l.c = some .local) || decide ((defScope l.st).names.lookup l.c = some .cell)) &&
  glOk (l.ct t) "_law_cells" && !(l.s == ("__debug__" : Str)) && !(l.s == ("__classdict__" : Str)) && decide (0 < l.top) && decide (l.top ≤ 3) &&
  (match defBody l.st with
    | [.If e [.Return (some (.Constant (.bool false) _ _)) _] [] _, .Assign [.Name c _] (.Call (.Name f _) [.Name s _, .Constant (.int top) _ _] [] _) _, last] =>
      decide (c = l.c) && decide (f = ("_law_cells" : Str)) && decide (s = l.s) && decide (top = l.top) && okE (.not (.call l.hand .nil)) (l.ct t) e && okB (lawRet l.right l.box) (l.ct t) false [last]
    | _ => false)
theorem rpA_int {F : Hp} : ∀ xs : List Int, RpA F (xs.map V.int) (xs.map PyData.int)
  | [] => .nil
  | x :: xs => .cons (.int x) (rpA_int xs)
section
variable {Pr : Program} {w : World} {K : PySem.W.Frag} {mg : Str → Option Value} {base : Heap} {cs : Cls'}
theorem law_ok (cs : Cls') {l : LawD} {t : Txt'} {fa : Nat → Addr} {fd : Nat → FuncData} {f fc : Addr} {fld fcd : FuncData} {cps : List Str} {k : Nat} {bh : Bx} (hl : l.ok t = true) (hall : t.DL.all (okDef t) = true) (T : AtTop Pr cs K mg t fa fd)
    (F : Fun K "law" "law" l.st f fld) (C : FnOk Pr w K mg base (L2.CX Pr w) 1 fc fcd cps (spCells K)) (mC : mg "_law_cells" = some (.ref fc)) (kC : PySem.W.keepIn K (.ref fc) = true) (bC : Binds K fcd cps [])
    (h1 : fnN (tblOf t.DL) (k + 1) l.hand [] b0 = .ok (.bool true) bh)
    (h2 : ∀ xs : List Int, 0 < xs.length → xs.length ≤ 3 → ∃ b, ex (fnN (tblOf t.DL) (k + 1)) (lawRet l.right l.box) [.no, .v (.list (xs.map PyData.int)), .no] b0 = .rt (.bool true) b) :
    FnOk Pr w K mg base (L2.CX Pr w) (k + 2) f fld [l.s] (spLaw K) := by
  unfold LawD.ok at hl
  rw [Bool.and_eq_true, Bool.and_eq_true, Bool.and_eq_true, Bool.and_eq_true, Bool.and_eq_true, Bool.and_eq_true, Bool.and_eq_true, Bool.and_eq_true] at hl
  obtain ⟨⟨⟨⟨⟨⟨⟨⟨o1, o2⟩, o3⟩, o4⟩, o5⟩, o6⟩, o7⟩, o8⟩, o9⟩ := hl
  have S := scB_of o1
  refine F.okX S (fun vs H Q E h => ?_) (fun cdv A outer s0 H vs Q E hr h => ?_)
  · obtain ⟨a, ns, rfl, _⟩ := h
    rfl
  obtain ⟨al, ns, rfl, hS, h63, q⟩ := h
  have ck : CokS (l.ct t) (cxOf (L2.CX Pr w) Pr w K mg base [l.s, l.c, l.k] "law" (defScope l.st) f cdv A outer s0 H E) none cs (fun cls dd _ H' => E cls dd H') (fnN (tblOf t.DL) (k + 1)) :=
    { k := { calm := rfl, N := rfl, nd := S.nd, sc := rfl, fn := (fun y => rfl), bx := ⟨(fun z => nomatch z), fun z => absurd rfl z⟩, hu := (by have := hr.un; show (A.deeper _).units + 70 < _; omega), blt := T.blt, con := T.con,
             fns := (fun g q hq => by
               obtain ⟨d', hd', rfl⟩ := fnsOf_get hq
               obtain ⟨F', B', m'⟩ := T.fn g d' hd'
               exact ⟨_, _, _, k + 1, m', F'.kp, all_ok hall T (k + 1) g d' hd', B', hr⟩),
             kws := (fun kw hk q hq => by
               obtain ⟨d', hd', rfl⟩ := fnsOf_get hq
               obtain ⟨F', B', m'⟩ := T.fn _ d' hd'
               obtain ⟨b1, b2⟩ := T.kws kw hk d' hd'
               have h := all_ok (Pr := Pr) (w := w) (base := base) (cs := cs) hall T (k + 1) kw.1 d' hd'
               rw [b1] at h
               exact ⟨_, _, _, k + 1, m', F'.kp, h, b2, hr⟩),
             exs := (fun q hq => by
               obtain ⟨n1, n2, bm, fI, cc, ca, m1, m2, m3, m4, m5⟩ := T.exs q hq
               exact ⟨n1, n2, bm, fI, cc, ca, k + 1, m1, m2, m3, m4, hr, m5⟩),
             tk := takes_of rfl rfl rfl rfl }, kind := S.kind, hp := passes_of rfl, stk := rfl, frm := rfl }
  split at o9
  · rename_i e1 kb1 pb1 pb2 pb3 cn pc1 fn pf1 sn ps1 top kt1 pt1 pc2 pa1 last hbd
    rw [Bool.and_eq_true, Bool.and_eq_true, Bool.and_eq_true, Bool.and_eq_true, Bool.and_eq_true, decide_eq_true_eq, decide_eq_true_eq, decide_eq_true_eq, decide_eq_true_eq] at o9
    obtain ⟨⟨⟨⟨⟨rfl, rfl⟩, rfl⟩, rfl⟩, u1⟩, u2⟩ := o9
    rw [hbd]
    have P1 := ((so_all (bo := none) (cs := cs) (φ := fnN (tblOf t.DL) (k + 1)) (.not (.call l.hand .nil))).a (H0 := H) (W := fun cls dd _ H' => E cls dd H') ck.k u1 rfl).1.t
    have lc : Loc (defScope l.st) l.c := by
      rw [Bool.or_eq_true, decide_eq_true_eq, decide_eq_true_eq] at o3
      exact o3
    have P2 := fun (F2 H2 : Hp) => (st_all (bo := none) (cs := cs) (φ := fnN (tblOf t.DL) (k + 1)) (F0 := F2) (H0 := H2) (lawRet l.right l.box)).2 ck u2
    obtain ⟨g1, g2⟩ := gl_of ck.k o4
    have P3 : PSs (cxOf (L2.CX Pr w) Pr w K mg base [l.s, l.c, l.k] "law" (defScope l.st) f cdv A outer s0 H E) [last] (fun D σ H => ∃ F0 H0, liftS none F0 H0 cs (fun cls dd _ H' => E cls dd H') false (ex (fnN (tblOf t.DL) (k + 1)) (lawRet l.right l.box)) D σ H) :=
      ⟨fun pins s σ H D I ⟨F2, H2, q⟩ => (P2 F2 H2).run pins s σ H D I q⟩
    refine ⟨_, pss_cons (ps_if P1 (pss_one (ps_ret pe_bl)) pss_nil) (pss_cons (ps_set (i := 1) S.nd rfl lc (pe_callS C (hr.mono (by omega)) g1 mC kC bC (fun σ => passAt ck.k.tk σ)
      (pa_cons (pe_var (i := 0) rfl (.inl (of_decide_eq_true o2)) (by simpa using o5) (by simpa using o6)) (pa_cons pe_int pa_nil)) g2)) P3), ?_⟩
    have e1 : gT (ev (fnN (tblOf t.DL) (k + 1)) (.not (.call l.hand .nil))) [.no, .no, .no] b0 = .ok false b0 := by
      show R.bind (R.bind (R.bind (R.ok (.list []) b0) fun ds b1 => match fnN (tblOf t.DL) (k + 1) l.hand (argsOf ds) b0 with | .ok d _ => .ok d b1 | .ex c d _ => .ex c d b1 | .no => .no) fun d b1 => R.ofO ((truD d).map fun t => .bool (!t)) b1) (fun d b1 => R.ofO (truD d) b1) = _
      have : fnN (tblOf t.DL) (k + 1) l.hand (argsOf (.list [])) b0 = .ok (.bool true) bh := h1
      simp only [R.bind, this]
      rfl
    refine ⟨[.no, .no, .no], b0, fun _ => none, ⟨(fun _ _ z => nomatch z), ⟨rfl, fun i s hs => ?_, fun i j a di dj _ hs => ?_⟩, (fun β z => nomatch z), (fun β z => nomatch z), fun a z => z⟩, ?_⟩
    · match i, hs with
      | 0, hs => cases hs; trivial
      | 1, hs => cases hs; trivial
      | 2, hs => cases hs; trivial
    · match i, hs with
      | 0, hs => cases hs
      | 1, hs => cases hs
      | 2, hs => cases hs
    rw [e1]
    intro F1 H1 x1 z1
    refine iteF ?_
    have sH1 : Same H H1 := fun a o ha => x1.keep a o (fun z => nomatch z) ha
    refine ⟨_, rfl, al, ns, l.top, rfl, sH1.seq hS, h63, of_decide_eq_true o7, of_decide_eq_true o8, fun xs p H2 y1 y2 y3 y4 y5 => ?_⟩
    obtain ⟨b2, hb2⟩ := h2 xs y1 y2
    have hF : ∀ a o, upd (fun _ => none) p (.lst (xs.map V.int)) a = some o → a = p ∧ o = .lst (xs.map V.int) := fun a o ha => by
      by_cases z : a = p
      · subst z
        rw [upd_same] at ha
        cases ha
        exact ⟨rfl, rfl⟩
      · rw [upd_ne z] at ha
        cases ha
    have hsub : Same (upd (fun _ => none) p (.lst (xs.map V.int))) H2 := fun a o ha => by
      obtain ⟨rfl, rfl⟩ := hF a o ha
      exact y5
    refine ⟨upd (fun _ => none) p (.lst (xs.map V.int)), H2, [.no, .v (.list (xs.map PyData.int)), .no], b0, upd (fun _ => none) p (.lst (xs.map V.int)), ⟨hsub, ⟨rfl, fun i s hs => ?_, fun i j a di dj _ hs => ?_⟩, (fun β z => nomatch z), (fun β z => nomatch z), fun a z => z⟩, Ext.refl hsub, ?_⟩
    · match i, hs with
      | 0, hs => cases hs; trivial
      | 1, hs => cases hs; exact ⟨.ref p, rfl, .lst upd_same (rpA_int xs)⟩
      | 2, hs => cases hs; trivial
    · match i, hs with
      | 0, hs => cases hs
      | 1, hs => cases hs
      | 2, hs => cases hs
    · rw [hb2]
      intro v F3 H3 x3 z3 r3
      have r3 : Rp F3 v (.bool true) := r3
      cases r3
      exact q H3
  · cases o9
end
end Dv
/-! text KB_k07 -/
set_option Elab.async false
set_option linter.all false
set_option maxRecDepth 100000
set_option maxHeartbeats 4000000
namespace Lw
open PySem PySem.Spec L2 Dv
theorem o0 : okDef T d0 = true := by decide +kernel
theorem o1 : okDef T d1 = true := by decide +kernel
theorem o2 : okDef T d2 = true := by decide +kernel
theorem o3 : okDef T d3 = true := by decide +kernel
theorem o4 : okDef T d4 = true := by decide +kernel
theorem o5 : okDef T d5 = true := by decide +kernel
theorem o6 : okDef T d6 = true := by decide +kernel
theorem o7 : okDef T d7 = true := by decide +kernel
theorem o8 : okDef T d8 = true := by decide +kernel
theorem o9 : okDef T d9 = true := by decide +kernel
theorem o10 : okDef T d10 = true := by decide +kernel
theorem o11 : okDef T d11 = true := by decide +kernel
theorem o12 : okDef T d12 = true := by decide +kernel
theorem o13 : okDef T d13 = true := by decide +kernel
theorem o14 : okDef T d14 = true := by decide +kernel
theorem o15 : okDef T d15 = true := by decide +kernel
theorem o16 : okDef T d16 = true := by decide +kernel
theorem o17 : okDef T d17 = true := by decide +kernel
theorem o18 : okDef T d18 = true := by decide +kernel
theorem o19 : okDef T d19 = true := by decide +kernel
theorem o20 : okDef T d20 = true := by decide +kernel
theorem o21 : okDef T d21 = true := by decide +kernel
theorem oAll : T.DL.all (okDef T) = true := by
  show [d0, d1, d2, d3, d4, d5, d6, d7, d8, d9, d10, d11, d12, d13, d14, d15, d16, d17, d18, d19, d20, d21].all (okDef T) = true
  rw [List.all_eq_true]
  intro d h
  simp only [List.mem_cons, List.not_mem_nil, or_false] at h
  rcases h with rfl | rfl | rfl | rfl | rfl | rfl | rfl | rfl | rfl | rfl | rfl | rfl | rfl | rfl | rfl | rfl | rfl | rfl | rfl | rfl | rfl | rfl
  · exact o0
  · exact o1
  · exact o2
  · exact o3
  · exact o4
  · exact o5
  · exact o6
  · exact o7
  · exact o8
  · exact o9
  · exact o10
  · exact o11
  · exact o12
  · exact o13
  · exact o14
  · exact o15
  · exact o16
  · exact o17
  · exact o18
  · exact o19
  · exact o20
  · exact o21
theorem oLaw : lw.ok T = true := by decide +kernel

end Lw
/-! text DN -/
set_option Elab.async false
set_option linter.all false
set_option maxRecDepth 100000
set_option maxHeartbeats 4000000
namespace Dv
open PySem

/-! ### what the evaluator's parts give -/
section
variable {α β : Type} {a : α} {b b1 : Bx} {f : α → Bx → R β} {e : Env}
@[simp] theorem bind_ok : (R.ok a b).bind f = f a b := rfl
@[simp] theorem bind_ex {c : Nat} {d : Option P} : (R.ex c d b : R α).bind f = .ex c d b := rfl
@[simp] theorem bind_no : (R.no : R α).bind f = .no := rfl
@[simp] theorem ofO_some : R.ofO (some a) b = .ok a b := rfl
@[simp] theorem ofO_none : (R.ofO (none : Option α) b) = .no := rfl
@[simp] theorem out_ok {f : α → Bx → Out} : (R.ok a b).out e f = f a b := rfl
@[simp] theorem out_ex {f : α → Bx → Out} {c : Nat} {d : Option P} : (R.ex c d b : R α).out e f = .xx e c d b := rfl
@[simp] theorem noex_ok : (R.ok a b).noex = .ok a b := rfl
@[simp] theorem obind_nx {f : Env → Bx → Out} : (Out.nx e b).bind f = f e b := rfl
@[simp] theorem obind_rt {d : P} {f : Env → Bx → Out} : (Out.rt d b).bind f = .rt d b := rfl
@[simp] theorem obind_xx {d : Option P} {c : Nat} {f : Env → Bx → Out} : (Out.xx e c d b).bind f = .xx e c d b := rfl
end
@[simp] theorem truD_none : truD .none = some false := rfl
@[simp] theorem truD_bool {t : Bool} : truD (.bool t) = some t := rfl
@[simp] theorem truD_int {i : Int} : truD (.int i) = some (i != 0) := rfl
@[simp] theorem truD_list {xs : List P} : truD (.list xs) = some (!xs.isEmpty) := rfl
@[simp] theorem truD_tuple {xs : List P} : truD (.tuple xs) = some (!xs.isEmpty) := rfl
@[simp] theorem argsOf_list {xs : List P} : argsOf (.list xs) = xs := rfl
@[simp] theorem itemsD_list {xs : List P} : itemsD (.list xs) = some xs := rfl
@[simp] theorem itemsD_tuple {xs : List P} : itemsD (.tuple xs) = some xs := rfl
@[simp] theorem lenD_list {xs : List P} : lenD (.list xs) = some (xs.length : Int) := rfl
@[simp] theorem lenD_tuple {xs : List P} : lenD (.tuple xs) = some (xs.length : Int) := rfl
@[simp] theorem mkSl_f {d : P} : mkSl false d = .v d := rfl
@[simp] theorem mkSl_t {xs : List P} : mkSl true (.list xs) = .o (.list xs) := rfl
@[simp] theorem tru_eq {φ : Phi} {c : IE} {e : Env} {b : Bx} : tru φ c e b = (ev φ c e b).bind fun d b1 => R.ofO (truD d) b1 := rfl
theorem line_eq' : line = 16777216 := rfl
/-- shaped: the flat ones -/
theorem shaped_int {i : Int} : SeqAt.shaped (.int i) = true := by simp [SeqAt.shaped, PyData.canLay0, PyData.depth]
theorem shaped_none : SeqAt.shaped .none = true := by simp [SeqAt.shaped, PyData.canLay0, PyData.depth]
theorem shaped_bool {t : Bool} : SeqAt.shaped (.bool t) = true := by simp [SeqAt.shaped, PyData.canLay0, PyData.depth]
theorem shaped_str {x : Str} (h : PyData.strOk x = true) : SeqAt.shaped (.str x) = true := by simp [SeqAt.shaped, PyData.canLay0, PyData.depth, h]
theorem beq_dec {α : Type} [DecidableEq α] {i j : α} : (i == j) = decide (i = j) := by
  by_cases h : i = j
  · simp [h]
  · simp [h]
@[simp] theorem eq_int {i j : Int} : cmpD .eq (.int i) (.int j) = some (decide (i = j)) := by
  simp [cmpD, eqD, shaped_int, PyData.eqv, beq_dec]
@[simp] theorem ne_int {i j : Int} : cmpD .ne (.int i) (.int j) = some (!decide (i = j)) := by
  simp [cmpD, eqD, shaped_int, PyData.eqv, beq_dec]
@[simp] theorem eq_bool {i j : Bool} : cmpD .eq (.bool i) (.bool j) = some (i == j) := by
  simp [cmpD, eqD, shaped_bool, PyData.eqv]
@[simp] theorem ne_bool {i j : Bool} : cmpD .ne (.bool i) (.bool j) = some (!(i == j)) := by
  simp [cmpD, eqD, shaped_bool, PyData.eqv]
theorem eq_str {i j : Str} (h1 : PyData.strOk i = true) (h2 : PyData.strOk j = true) : cmpD .eq (.str i) (.str j) = some (decide (i = j)) := by
  simp [cmpD, eqD, shaped_str h1, shaped_str h2, PyData.eqv, beq_dec]
@[simp] theorem lt_int {i j : Int} : cmpD .lt (.int i) (.int j) = some (decide (i < j)) := rfl
@[simp] theorem le_int {i j : Int} : cmpD .le (.int i) (.int j) = some (decide (i ≤ j)) := rfl
@[simp] theorem gt_int {i j : Int} : cmpD .gt (.int i) (.int j) = some (decide (j < i)) := rfl
@[simp] theorem ge_int {i j : Int} : cmpD .ge (.int i) (.int j) = some (decide (j ≤ i)) := rfl
def isNo : P → Bool
  | .none => true
  | _ => false
@[simp] theorem is_none {x : P} : cmpD .is_ x .none = some (isNo x) := by cases x <;> rfl
@[simp] theorem isn_none {x : P} : cmpD .isn x .none = some (!isNo x) := by cases x <;> rfl

theorem all_l {xs : List P} : biD .all [.list xs] = (boolsOf xs).map fun bs => .bool (bs.all id) := rfl
theorem bools_map {α : Type} (g : α → Bool) : ∀ xs : List α, boolsOf (xs.map fun x => PyData.bool (g x)) = some (xs.map g)
  | [] => rfl
  | x :: xs => by
    show (boolsOf (xs.map fun x => PyData.bool (g x))).map (g x :: ·) = _
    rw [bools_map g xs] <;> rfl
theorem all_map {α : Type} (g : α → Bool) (xs : List α) : biD .all [.list (xs.map fun x => PyData.bool (g x))] = some (.bool (xs.all g)) := by
  rw [all_l, bools_map]
  simp [List.all_map]

@[simp] theorem idx_lz {x : P} {xs : List P} : idxD (.list (x :: xs)) (.int 0) = some x := L2.atI_nat (j := 0) rfl
@[simp] theorem idx_tz {x : P} {xs : List P} : idxD (.tuple (x :: xs)) (.int 0) = some x := L2.atI_nat (j := 0) rfl
@[simp] theorem idx_l1 {x y : P} {xs : List P} : idxD (.list (x :: y :: xs)) (.int 1) = some y := L2.atI_nat (j := 1) rfl
@[simp] theorem idx_t1 {x y : P} {xs : List P} : idxD (.tuple (x :: y :: xs)) (.int 1) = some y := L2.atI_nat (j := 1) rfl
theorem idx_ti {xs : List P} {i : Int} (h0 : 0 ≤ i) (h1 : i < xs.length) : idxD (.tuple xs) (.int i) = some (xs[i.toNat]'(by omega)) := by
  have t : i = ((i.toNat : Nat) : Int) := by omega
  have := L2.atI_nat (xs := xs) (j := i.toNat) (List.getElem?_eq_getElem (by omega))
  rw [← t] at this
  exact this
theorem idx_li {xs : List P} {i : Int} (h0 : 0 ≤ i) (h1 : i < xs.length) : idxD (.list xs) (.int i) = some (xs[i.toNat]'(by omega)) := by
  have t : i = ((i.toNat : Nat) : Int) := by omega
  have := L2.atI_nat (xs := xs) (j := i.toNat) (List.getElem?_eq_getElem (by omega))
  rw [← t] at this
  exact this

theorem setAt_n {xs : List P} {i : Int} {v : P} (h0 : 0 ≤ i) (h1 : i < xs.length) : setAt (.list xs) (.int i) v = some (.list (xs.set i.toNat v)) := by
  have : L2.ixN xs.length i = some i.toNat := by
    unfold L2.ixN
    rw [if_pos h0, if_pos h1]
  show (match L2.ixN xs.length i with | some j => some (PyData.list (xs.set j v)) | none => none) = _
  rw [this]

/-! a def's run -/
theorem run_rt {φ : Phi} {f : Fn} {as : List P} {b b1 : Bx} {d : P} (h : as.length = f.ps) (e : ex φ f.body (startE f.bx f.slots as) b = .rt d b1) : run φ f as b = .ok d b1 := by
  unfold run
  rw [if_pos h, e]
theorem fn_run {T : Nat → Option Fd} {k i : Nat} {f : Fn} (h : T i = some (.code f)) (as : List P) (b : Bx) : fnN T (k + 1) i as b = run (fnN T k) f as b := by
  show (match T i with | some (.code f) => run (fnN T k) f as b | some (.prim g) => g as b | none => .no) = _
  rw [h]

/-! statements, one by one -/
section
variable {φ : Phi} {x y : IS} {e e1 : Env} {b b1 : Bx} {o : Out} {d : P}
theorem seq_nx (h1 : ex φ x e b = .nx e1 b1) (h2 : ex φ y e1 b1 = o) : ex φ (.seq x y) e b = o := by
  show (ex φ x e b).bind _ = o
  rw [h1]
  exact h2
theorem seq_rt (h1 : ex φ x e b = .rt d b1) : ex φ (.seq x y) e b = .rt d b1 := by
  show (ex φ x e b).bind _ = _
  rw [h1] <;> rfl
theorem for_of {tg : Tg} {it : IE} {xs : List P} (hi : ev φ it e b = .ok d b1) (hd : itemsD d = some xs) (hl : forL (fun x e b => match asgn tg x e with
      | none => .no
      | some e' => ex φ y e' b) xs e b1 = o) : ex φ (.forr tg it y) e b = o := by
  show (ev φ it e b).out e _ = o
  rw [hi]
  show (match itemsD d with | none => Out.no | some xs => _) = o
  rw [hd]
  exact hl
theorem iff_t {c : IE} (hc : ev φ c e b = .ok d b1) (ht : truD d = some true) (h : ex φ x e b1 = o) : ex φ (.iff c x y) e b = o := by
  show (tru φ c e b).out e _ = o
  rw [tru_eq, hc, bind_ok, ht]
  exact h
theorem iff_f {c : IE} (hc : ev φ c e b = .ok d b1) (ht : truD d = some false) (h : ex φ y e b1 = o) : ex φ (.iff c x y) e b = o := by
  show (tru φ c e b).out e _ = o
  rw [tru_eq, hc, bind_ok, ht]
  exact h
theorem ret_of {c : IE} (hc : ev φ c e b = .ok d b1) : ex φ (.ret c) e b = .rt d b1 := by
  show (ev φ c e b).out e _ = _
  rw [hc] <;> rfl
theorem setS_of {c : IE} {i : Nat} {ow : Bool} (hc : ev φ c e b = .ok d b1) : ex φ (.set i ow c) e b = .nx (e.set i (mkSl ow d)) b1 := by
  show (ev φ c e b).out e _ = _
  rw [hc] <;> rfl
end

/-! walks -/
theorem forL_nx {body : P → Env → Bx → Out} {I : List P → Env → Bx → Prop} (step : ∀ x xs e b, I (x :: xs) e b → ∃ e1 b1, body x e b = .nx e1 b1 ∧ I xs e1 b1) : ∀ xs e b, I xs e b → ∃ e1 b1, forL body xs e b = .nx e1 b1 ∧ I [] e1 b1
  | [], e, b, h => ⟨e, b, rfl, h⟩
  | x :: xs, e, b, h => by
    obtain ⟨e1, b1, h1, h2⟩ := step x xs e b h
    obtain ⟨e2, b2, h3, h4⟩ := forL_nx step xs e1 b1 h2
    exact ⟨e2, b2, by show (body x e b).bind _ = _; rw [h1]; exact h3, h4⟩
/-- it goes on, or hands back: what holds then -/
theorem forL_or {body : P → Env → Bx → Out} {I : List P → Env → Bx → Prop} {J : Out → Prop} (step : ∀ x xs e b, I (x :: xs) e b → (∃ e1 b1, body x e b = .nx e1 b1 ∧ I xs e1 b1) ∨ ∃ d b1, body x e b = .rt d b1 ∧ J (.rt d b1)) :
    ∀ xs e b, I xs e b → (∃ e1 b1, forL body xs e b = .nx e1 b1 ∧ I [] e1 b1) ∨ ∃ d b1, forL body xs e b = .rt d b1 ∧ J (.rt d b1)
  | [], e, b, h => .inl ⟨e, b, rfl, h⟩
  | x :: xs, e, b, h => by
    rcases step x xs e b h with ⟨e1, b1, h1, h2⟩ | ⟨d, b1, h1, h2⟩
    · rcases forL_or step xs e1 b1 h2 with ⟨e2, b2, h3, h4⟩ | ⟨d, b2, h3, h4⟩
      · exact .inl ⟨e2, b2, by show (body x e b).bind _ = _; rw [h1]; exact h3, h4⟩
      · exact .inr ⟨d, b2, by show (body x e b).bind _ = _; rw [h1]; exact h3, h4⟩
    · exact .inr ⟨d, b1, by show (body x e b).bind _ = _; rw [h1] <;> rfl, h2⟩
theorem lcL_inv {turn : P → Bx → R (List P)} {I : List P → List P → Bx → Prop} (step : ∀ x xs acc b, I (x :: xs) acc b → ∃ ys b1, turn x b = .ok ys b1 ∧ I xs (acc ++ ys) b1) : ∀ xs acc b, I xs acc b → ∃ zs b1, lcL turn xs b = .ok zs b1 ∧ I [] (acc ++ zs) b1
  | [], acc, b, h => ⟨[], b, rfl, by simpa using h⟩
  | x :: xs, acc, b, h => by
    obtain ⟨ys, b1, h1, h2⟩ := step x xs acc b h
    obtain ⟨zs, b2, h3, h4⟩ := lcL_inv step xs _ b1 h2
    exact ⟨ys ++ zs, b2, by show (turn x b).bind _ = _; rw [h1]; show (lcL turn xs b1).bind _ = _; rw [h3] <;> rfl, by rw [← List.append_assoc]; exact h4⟩
theorem lcL_flat {turn : P → Bx → R (List P)} {g : P → List P} {b : Bx} : ∀ {xs : List P}, (∀ x ∈ xs, turn x b = .ok (g x) b) → lcL turn xs b = .ok (xs.flatMap g) b
  | [], _ => rfl
  | x :: xs, h => by
    show (turn x b).bind _ = _
    rw [h x List.mem_cons_self]
    show (lcL turn xs b).bind _ = _
    rw [lcL_flat fun y hy => h y (List.mem_cons_of_mem _ hy)]
    rw [List.flatMap_cons] <;> rfl
theorem lcL_map {turn : P → Bx → R (List P)} {g : P → P} {b : Bx} {xs : List P} (h : ∀ x ∈ xs, turn x b = .ok [g x] b) : lcL turn xs b = .ok (xs.map g) b := by
  rw [lcL_flat (g := fun x => [g x]) h]
  congr 1
  clear h
  induction xs with
  | nil => rfl
  | cons x xs ih => rw [List.flatMap_cons, ih] <;> rfl
theorem lcL_filter {turn : P → Bx → R (List P)} {p : P → Bool} {g : P → P} {b : Bx} {xs : List P} (h : ∀ x ∈ xs, turn x b = .ok (if p x then [g x] else []) b) : lcL turn xs b = .ok ((xs.filter p).map g) b := by
  rw [lcL_flat h]
  congr 1
  clear h
  induction xs with
  | nil => rfl
  | cons x xs ih =>
    rw [List.flatMap_cons, ih]
    by_cases q : p x = true
    · simp [q]
    · simp [q]
theorem lcL_map_map {α : Type} {turn : P → Bx → R (List P)} {h g : α → P} {b : Bx} : ∀ {ps : List α}, (∀ a ∈ ps, turn (h a) b = .ok [g a] b) → lcL turn (ps.map h) b = .ok (ps.map g) b
  | [], _ => rfl
  | a :: ps, H => by
    rw [List.map_cons]
    show (turn (h a) b).bind _ = _
    rw [H a List.mem_cons_self]
    show (lcL turn (ps.map h) b).bind _ = _
    rw [lcL_map_map (g := g) fun y hy => H y (List.mem_cons_of_mem _ hy)] <;> rfl
theorem lcL_filter_map {α : Type} {turn : P → Bx → R (List P)} {h g : α → P} {p : α → Bool} {b : Bx} : ∀ {ps : List α}, (∀ a ∈ ps, turn (h a) b = .ok (if p a then [g a] else []) b) → lcL turn (ps.map h) b = .ok ((ps.filter p).map g) b
  | [], _ => rfl
  | a :: ps, H => by
    rw [List.map_cons]
    show (turn (h a) b).bind _ = _
    rw [H a List.mem_cons_self]
    show (lcL turn (ps.map h) b).bind _ = _
    rw [lcL_filter_map (g := g) (p := p) fun y hy => H y (List.mem_cons_of_mem _ hy)]
    rw [List.filter_cons]
    cases p a <;> rfl
/-! comprehensions -/
def lcTurn (φ : Phi) (own : List Nat) (elt : IE) (tg : Tg) (ifs : IE) (e : Env) (x : P) (b : Bx) : R (List P) := R.noex (match asgn tg x (wipe e own) with
  | none => .no
  | some e' => (ev φ ifs e' b).bind fun t b2 => match truD t with
    | some true => (ev φ elt e' b2).bind fun y b3 => .ok [y] b3
    | some false => .ok [] b2
    | none => .no)
section
variable {φ : Phi} {own : List Nat} {elt it ifs : IE} {tg : Tg} {e : Env} {b b1 : Bx} {d : P} {xs : List P}
theorem ev_lc (hi : ev φ it e b = .ok d b1) (hd : itemsD d = some xs) (hl : xs.length ≤ line) : ev φ (.lc own elt tg it ifs) e b = (lcL (lcTurn φ own elt tg ifs e) xs b1).bind fun ys b2 => .ok (.list ys) b2 := by
  have q : ev φ (.lc own elt tg it ifs) e b = (ev φ it e b).bind fun d b1 => match itemsD d with
    | none => .no
    | some xs => if xs.length ≤ line then (lcL (lcTurn φ own elt tg ifs e) xs b1).bind fun ys b2 => .ok (.list ys) b2 else .no := rfl
  rw [q, hi, bind_ok, hd]
  show (if xs.length ≤ line then _ else R.no) = _
  rw [if_pos hl]
theorem turn_t {x y : P} {e' : Env} {b b2 b3 : Bx} (ha : asgn tg x (wipe e own) = some e') (hf : ev φ ifs e' b = .ok (.bool true) b2) (he : ev φ elt e' b2 = .ok y b3) : lcTurn φ own elt tg ifs e x b = .ok [y] b3 := by
  unfold lcTurn
  rw [ha]
  show R.noex ((ev φ ifs e' b).bind _) = _
  rw [hf, bind_ok, truD_bool]
  show R.noex ((ev φ elt e' b2).bind _) = _
  rw [he] <;> rfl
theorem turn_f {x : P} {e' : Env} {b b2 : Bx} (ha : asgn tg x (wipe e own) = some e') (hf : ev φ ifs e' b = .ok (.bool false) b2) : lcTurn φ own elt tg ifs e x b = .ok [] b2 := by
  unfold lcTurn
  rw [ha]
  show R.noex ((ev φ ifs e' b).bind _) = _
  rw [hf, bind_ok, truD_bool] <;> rfl
/-- each item gives one, nothing is drawn -/
theorem lc_map {g : P → P} (hi : ev φ it e b = .ok d b1) (hd : itemsD d = some xs) (hl : xs.length ≤ line) (h : ∀ x ∈ xs, ∃ e', asgn tg x (wipe e own) = some e' ∧ ev φ ifs e' b1 = .ok (.bool true) b1 ∧ ev φ elt e' b1 = .ok (g x) b1) : ev φ (.lc own elt tg it ifs) e b = .ok (.list (xs.map g)) b1 := by
  rw [ev_lc hi hd hl, lcL_map (g := g) (fun x hx => by
    obtain ⟨e', h1, h2, h3⟩ := h x hx
    exact turn_t h1 h2 h3)]
  rfl
theorem lc_filter {p : P → Bool} {g : P → P} (hi : ev φ it e b = .ok d b1) (hd : itemsD d = some xs) (hl : xs.length ≤ line) (h : ∀ x ∈ xs, ∃ e', asgn tg x (wipe e own) = some e' ∧ ev φ ifs e' b1 = .ok (.bool (p x)) b1 ∧ (p x = true → ev φ elt e' b1 = .ok (g x) b1)) : ev φ (.lc own elt tg it ifs) e b = .ok (.list ((xs.filter p).map g)) b1 := by
  rw [ev_lc hi hd hl, lcL_filter (g := g) (p := p) (fun x hx => by
    obtain ⟨e', h1, h2, h3⟩ := h x hx
    cases q : p x with
    | true =>
      rw [q] at h2
      rw [if_pos rfl]
      exact turn_t h1 h2 (h3 q)
    | false =>
      rw [q] at h2
      rw [if_neg (by decide)]
      exact turn_f h1 h2)]
  rfl
/-- the same over what is mapped -/
theorem lc_map_map {α : Type} {f g : α → P} {ps : List α} (hi : ev φ it e b = .ok d b1) (hd : itemsD d = some (ps.map f)) (hl : ps.length ≤ line) (h : ∀ a ∈ ps, ∃ e', asgn tg (f a) (wipe e own) = some e' ∧ ev φ ifs e' b1 = .ok (.bool true) b1 ∧ ev φ elt e' b1 = .ok (g a) b1) : ev φ (.lc own elt tg it ifs) e b = .ok (.list (ps.map g)) b1 := by
  rw [ev_lc hi hd (by rw [List.length_map]; exact hl), lcL_map_map (g := g) (fun a ha => by
    obtain ⟨e', h1, h2, h3⟩ := h a ha
    exact turn_t h1 h2 h3)]
  rfl
theorem lc_filter_map {α : Type} {f g : α → P} {p : α → Bool} {ps : List α} (hi : ev φ it e b = .ok d b1) (hd : itemsD d = some (ps.map f)) (hl : ps.length ≤ line) (h : ∀ a ∈ ps, ∃ e', asgn tg (f a) (wipe e own) = some e' ∧ ev φ ifs e' b1 = .ok (.bool (p a)) b1 ∧ (p a = true → ev φ elt e' b1 = .ok (g a) b1)) : ev φ (.lc own elt tg it ifs) e b = .ok (.list ((ps.filter p).map g)) b1 := by
  rw [ev_lc hi hd (by rw [List.length_map]; exact hl), lcL_filter_map (g := g) (p := p) (fun a ha => by
    obtain ⟨e', h1, h2, h3⟩ := h a ha
    cases q : p a with
    | true =>
      rw [q] at h2
      rw [if_pos rfl]
      exact turn_t h1 h2 (h3 q)
    | false =>
      rw [q] at h2
      rw [if_neg (by decide)]
      exact turn_f h1 h2)]
  rfl
/-- each item gives one, by draws -/
theorem lc_draw {I : List P → List P → Bx → Prop} (hi : ev φ it e b = .ok d b1) (hd : itemsD d = some xs) (hl : xs.length ≤ line) (h0 : I xs [] b1)
    (step : ∀ x rest acc b, I (x :: rest) acc b → ∃ e' y b2, asgn tg x (wipe e own) = some e' ∧ ev φ ifs e' b = .ok (.bool true) b ∧ ev φ elt e' b = .ok y b2 ∧ I rest (acc ++ [y]) b2) : ∃ zs b2, ev φ (.lc own elt tg it ifs) e b = .ok (.list zs) b2 ∧ I [] zs b2 := by
  obtain ⟨zs, b2, h1, h2⟩ := lcL_inv (turn := lcTurn φ own elt tg ifs e) (I := I) (fun x rest acc b h => by
    obtain ⟨e', y, b2, s1, s2, s3, s4⟩ := step x rest acc b h
    exact ⟨[y], b2, turn_t s1 s2 s3, s4⟩) xs [] b1 h0
  exact ⟨zs, b2, by rw [ev_lc hi hd hl, h1] <;> rfl, by simpa using h2⟩
end
theorem rngUp_eq : ∀ (n : Nat) (lo : Int), rngUp lo n = (List.range n).map fun (i : Nat) => PyData.int (lo + i)
  | 0, lo => rfl
  | n + 1, lo => by
    rw [List.range_succ_eq_map, List.map_cons, List.map_map]
    show .int lo :: rngUp (lo + 1) n = _
    rw [rngUp_eq n (lo + 1)]
    congr 1
    · simp
    · apply List.map_congr_left
      intro i _
      simp
      omega

/-! ### the source of draws -/
/-- so many draws are still allowed -/
def Bl (m : Nat) (b : Bx) : Prop := 0 ≤ b.2.2 ∧ b.2.2 + m ≤ 1152921504606846976
theorem Bl.le {m n : Nat} {b : Bx} (h : Bl m b) (q : n ≤ m) : Bl n b := ⟨h.1, by have := h.2; omega⟩
def takeIS : IS := .seq (.iff (.cmp .gt (.bget 0) (.cst (.int 0))) (.seq (.set 5 false (.bin .mod (.bi .int_ (.cons (.bget 0) (.nil))) (.var 1))) (.seq (.bset 0 (.bin .fdiv (.bget 0) (.var 1))) (.seq (.ret (.var 5)) (.nop)))) (.nop)) (.seq (.bset 2 (.bin .add (.bget 2) (.cst (.int 1)))) (.seq (.set 2 false (.bin .mod (.bi .int_ (.cons (.bin .mul (.bin .add (.bget 1) (.bin .mul (.cst (.int 48271)) (.bget 2))) (.bin .add (.cst (.int 39373)) (.bget 2))) (.nil))) (.cst (.int 2147483647)))) (.seq (.set 3 false (.bin .add (.bin .mod (.bi .int_ (.cons (.var 2) (.nil))) (.cst (.int 40009))) (.cst (.int 7)))) (.seq (.set 4 false (.bin .mod (.bi .int_ (.cons (.bin .mul (.bin .add (.bin .add (.var 2) (.bget 2)) (.bin .fdiv (.bget 1) (.cst (.int 1000003)))) (.var 3)) (.nil))) (.cst (.int 2147483629)))) (.seq (.ret (.bin .mod (.bi .int_ (.cons (.bin .fdiv (.bin .mod (.bi .int_ (.cons (.bin .add (.bin .mul (.var 4) (.cst (.int 48271))) (.var 2)) (.nil))) (.cst (.int 2147483587))) (.cst (.int 64))) (.nil))) (.var 1))) (.nop))))))
def takeF : Fn := { ps := 1, bx := true, fr := false, slots := 6, body := takeIS }
theorem mul_l {i j : Int} (h1 : -18446744073709551616 < i) (h2 : i < 18446744073709551616) : binD .mul (.int i) (.int j) = some (.int (i * j)) := by
  show (if mulOk i j then some (PyData.int (i * j)) else none) = _
  rw [if_pos]
  unfold mulOk
  rw [Bool.or_eq_true]
  exact .inl (leN_of (by omega))
theorem mul_r {i j : Int} (h1 : -18446744073709551616 < j) (h2 : j < 18446744073709551616) : binD .mul (.int i) (.int j) = some (.int (i * j)) := by
  show (if mulOk i j then some (PyData.int (i * j)) else none) = _
  rw [if_pos]
  unfold mulOk
  rw [Bool.or_eq_true]
  exact .inr (leN_of (by omega))
theorem mod_i {i j : Int} (h : 0 < j) : binD .mod (.int i) (.int j) = some (.int (i.fmod j)) := by
  show (if decide (j ≠ 0) then some (PyData.int (i.fmod j)) else none) = _
  rw [if_pos]
  simp
  omega
theorem fdiv_i {i j : Int} (h : 0 < j) (h2 : j < 1073741824) : binD .fdiv (.int i) (.int j) = some (.int (i.fdiv j)) := by
  show (if decide (j ≠ 0) && decide (j.natAbs < 1073741824) then some (PyData.int (i.fdiv j)) else none) = _
  rw [if_pos]
  simp
  omega
@[simp] theorem add_i {i j : Int} : binD .add (.int i) (.int j) = some (.int (i + j)) := rfl
@[simp] theorem sub_i {i j : Int} : binD .sub (.int i) (.int j) = some (.int (i - j)) := rfl
theorem fmod_lt {i j : Int} (h : 0 < j) : 0 ≤ i.fmod j ∧ i.fmod j < j := ⟨Int.fmod_nonneg_of_pos i h, Int.fmod_lt_of_pos i h⟩
@[simp] theorem int_i {i : Int} : biD .int_ [.int i] = some (.int i) := rfl
@[simp] theorem len_l {x : P} : biD .len [x] = (lenD x).map .int := rfl
theorem take_ok {φ : Phi} {n : Int} {m : Nat} {b : Bx} (hn : 0 < n) (hn2 : n < 1073741824) (hb : Bl (m + 1) b) : ∃ r b', run φ takeF [.int n] b = .ok (.int r) b' ∧ 0 ≤ r ∧ r < n ∧ Bl m b' := by
  obtain ⟨b0, b1, c⟩ := b
  obtain ⟨h1, h2⟩ := hb
  simp only at h1 h2
  by_cases q : 0 < b0
  · refine ⟨b0.fmod n, (b0.fdiv n, b1, c), run_rt rfl ?_, (fmod_lt hn).1, (fmod_lt hn).2, h1, by simp only; omega⟩
    simp [takeF, takeIS, ex, ev, startE, getV, bxAt, bxSet, q, mod_i hn, fdiv_i hn hn2]
  · have e1 : binD .mul (.int 48271) (.int (c + 1)) = some (.int (48271 * (c + 1))) := mul_l (by omega) (by omega)
    have e2 : ∀ i, binD .mul (.int i) (.int (39373 + (c + 1))) = some (.int (i * (39373 + (c + 1)))) := fun i => mul_r (by omega) (by omega)
    have e3 : ∀ i x : Int, binD .mul (.int i) (.int (x.fmod 40009 + 7)) = some (.int (i * (x.fmod 40009 + 7))) := fun i x => by
      have := fmod_lt (i := x) (j := 40009) (by omega)
      exact mul_r (by omega) (by omega)
    have e4 : ∀ x : Int, binD .mul (.int x) (.int 48271) = some (.int (x * 48271)) := fun x => mul_r (by omega) (by omega)
    have m1 : ∀ i : Int, binD .mod (.int i) (.int 2147483647) = some (.int (i.fmod 2147483647)) := fun i => mod_i (by omega)
    have m2 : ∀ i : Int, binD .mod (.int i) (.int 40009) = some (.int (i.fmod 40009)) := fun i => mod_i (by omega)
    have m3 : ∀ i : Int, binD .mod (.int i) (.int 2147483629) = some (.int (i.fmod 2147483629)) := fun i => mod_i (by omega)
    have m4 : ∀ i : Int, binD .mod (.int i) (.int 2147483587) = some (.int (i.fmod 2147483587)) := fun i => mod_i (by omega)
    have d1 : ∀ i : Int, binD .fdiv (.int i) (.int 1000003) = some (.int (i.fdiv 1000003)) := fun i => fdiv_i (by omega) (by omega)
    have d2 : ∀ i : Int, binD .fdiv (.int i) (.int 64) = some (.int (i.fdiv 64)) := fun i => fdiv_i (by omega) (by omega)
    refine ⟨(((((((b1 + 48271 * (c + 1)) * (39373 + (c + 1))).fmod 2147483647 + (c + 1) + b1.fdiv 1000003) * ((((b1 + 48271 * (c + 1)) * (39373 + (c + 1))).fmod 2147483647).fmod 40009 + 7)).fmod 2147483629 * 48271 + ((b1 + 48271 * (c + 1)) * (39373 + (c + 1))).fmod 2147483647).fmod 2147483587).fdiv 64).fmod n,
      (b0, b1, c + 1), run_rt rfl ?_, (fmod_lt hn).1, (fmod_lt hn).2, by simp only; omega, by simp only; omega⟩
    simp [takeF, takeIS, ex, ev, startE, getV, bxAt, bxSet, q, e1, e2, e3, e4, m1, m2, m3, m4, d1, d2, mod_i hn]
end Dv
/-! text DO -/
set_option Elab.async false
set_option linter.all false
set_option maxRecDepth 100000
set_option maxHeartbeats 4000000
namespace Dv
open PySem
/-! ### helpers of every law -/
def boxIS (seed : Int) : IS := .seq (.set 2 false (.ite (.cmp .lt (.var 1) (.bi .len (.cons (.var 0) (.nil)))) (.idx (.var 0) (.var 1)) (.cst (.int 0)))) (.seq (.ret (.lst (.cons (.bin .mul (.bi .abs (.cons (.var 2) (.nil))) (.bi .int_ (.cons (.cmp .ge (.bi .abs (.cons (.var 2) (.nil))) (.bin .pow (.cst (.int 10)) (.cst (.int 18)))) (.nil)))) (.cons (.bin .add (.bin .add (.bin .mod (.bi .int_ (.cons (.var 2) (.nil))) (.cst (.int 2305843009213693951))) (.bin .mul (.cst (.int 39373)) (.var 1))) (.cst (.int seed))) (.cons (.cst (.int 0)) (.nil)))))) (.nop))
def boxF (seed : Int) : Fn := { ps := 2, bx := false, fr := true, slots := 3, body := boxIS seed }
theorem box_ok {φ : Phi} {seed : Int} {xs : List Int} {i : Nat} {b : Bx} (h : i < xs.length) (h2 : i < 1000) : ∃ p q : Int, run φ (boxF seed) [.list (xs.map .int), .int i] b = .ok (.list [.int p, .int q, .int 0]) b := by
  have e0 : L2.atI (xs.map PyData.int) (i : Int) = some (.int xs[i]) := by
    refine L2.atI_nat ?_
    rw [List.getElem?_map, List.getElem?_eq_getElem h] <;> rfl
  have e1 : idxD (.list (xs.map PyData.int)) (.int (i : Int)) = some (.int xs[i]) := e0
  have e2 : ∀ c : Int, biD .abs [.int c] = some (.int (if c < 0 then -c else c)) := fun c => rfl
  have e3 : binD .pow (.int 10) (.int 18) = some (.int 1000000000000000000) := by
    show (if decide ((0 : Int) ≤ 18) && decide ((18 : Int) ≤ 1000000) && decide ((10 : Int).natAbs < 18446744073709551616) then some (PyData.int (10 ^ (18 : Int).toNat)) else none) = _
    rw [if_pos (by decide)] <;> rfl
  have e4 : ∀ t : Bool, biD .int_ [.bool t] = some (.int (b2i t)) := fun t => rfl
  have e5 : ∀ (c : Int) (t : Bool), binD .mul (.int c) (.int (b2i t)) = some (.int (c * b2i t)) := fun c t => by
    cases t
    · exact mul_r (by decide) (by decide)
    · exact mul_r (by decide) (by decide)
  have e6 : binD .mul (.int 39373) (.int (i : Int)) = some (.int (39373 * (i : Int))) := mul_l (by decide) (by decide)
  have e7 : ∀ c : Int, binD .mod (.int c) (.int 2305843009213693951) = some (.int (c.fmod 2305843009213693951)) := fun c => mod_i (by decide)
  have c1 : ((i : Int) < (xs.length : Int)) := by omega
  refine ⟨(if xs[i] < 0 then -xs[i] else xs[i]) * b2i (decide (1000000000000000000 ≤ (if xs[i] < 0 then -xs[i] else xs[i]))), (xs[i]).fmod 2305843009213693951 + 39373 * (i : Int) + seed, run_rt rfl ?_⟩
  simp [boxF, boxIS, ex, ev, startE, getV, e1, e2, e3, e4, e5, e6, e7, c1, h, line]
theorem bools_true : ∀ n : Nat, boolsOf (List.replicate n (PyData.bool true)) = some (List.replicate n true)
  | 0 => rfl
  | n + 1 => by
    show (boolsOf (List.replicate n (PyData.bool true))).map (true :: ·) = _
    rw [bools_true n] <;> rfl
theorem all_true (n : Nat) : biD .all [.list (List.replicate n (.bool true))] = some (.bool true) := by
  show (boolsOf (List.replicate n (PyData.bool true))).map (fun bs => PyData.bool (bs.all id)) = _
  rw [bools_true]
  simp
theorem rng_n {n : Nat} (h : n ≤ 1000) : rngD [.int (n : Int)] = some (rngUp 0 n) := by
  have : int62 (n : Int) = true := leN_of (by omega)
  show (if int62 (n : Int) then some (rngUp 0 ((n : Int)).toNat) else none) = _
  rw [if_pos this]
  rfl
theorem rng_2 {i j : Int} (h1 : i.natAbs ≤ 1000000) (h2 : j.natAbs ≤ 1000000) : rngD [.int i, .int j] = some (rngUp i (j - i).toNat) := by
  have a : int62 i = true := leN_of (by omega)
  have b : int62 j = true := leN_of (by omega)
  show (if int62 i && int62 j then some (rngUp i (j - i).toNat) else none) = _
  rw [a, b]
  rfl
theorem mem_rng {x : P} {lo : Int} {n : Nat} (h : x ∈ rngUp lo n) : ∃ i : Nat, i < n ∧ x = .int (lo + i) := by
  rw [rngUp_eq] at h
  obtain ⟨i, hi, rfl⟩ := List.mem_map.mp h
  exact ⟨i, List.mem_range.mp hi, rfl⟩
theorem rng_mem {lo : Int} {n i : Nat} (h : i < n) : (.int (lo + i) : P) ∈ rngUp lo n := by
  rw [rngUp_eq]
  exact List.mem_map.mpr ⟨i, List.mem_range.mpr h, rfl⟩
theorem rngUp_len' (n : Nat) (lo : Int) : (rngUp lo n).length = n := by rw [rngUp_eq]; simp
theorem map_const (x : P) : ∀ xs : List P, xs.map (fun _ => x) = List.replicate xs.length x
  | [] => rfl
  | y :: ys => by
    rw [List.map_cons, map_const x ys] <;> rfl
theorem ret_ok {φ φ' : Phi} {right box : Nat} {seed : Int} {xs : List Int} (hbox : ∀ as b, φ box as b = run φ' (boxF seed) as b) (hr : ∀ p q : Int, ∃ b', φ right [] (p, q, 0) = .ok (.bool true) b') (hl : xs.length ≤ 3) :
    ∃ b, ex φ (lawRet right box) [.no, .v (.list (xs.map PyData.int)), .no] b0 = .rt (.bool true) b := by
  have e1 : rngD [.int (xs.length : Int)] = some (rngUp 0 xs.length) := rng_n (by omega)
  have e2 : (rngUp 0 xs.length).length ≤ line := by
    rw [rngUp_len']
    exact Nat.le_trans hl (by decide)
  refine ⟨b0, ?_⟩
  simp [lawRet, ex, ev, getV, e1, e2]
  rw [lcL_map (g := fun _ => .bool true) (fun x hx => ?_)]
  · have : (rngUp 0 xs.length).map (fun _ => PyData.bool true) = List.replicate xs.length (.bool true) := by
      rw [map_const, rngUp_len']
    simp [this, all_true]
  · rw [rngUp_eq] at hx
    obtain ⟨i, hi, rfl⟩ := List.mem_map.mp hx
    have hi := List.mem_range.mp hi
    obtain ⟨p, q, hb⟩ := box_ok (φ := φ') (seed := seed) (b := b0) hi (by omega)
    obtain ⟨b', hr'⟩ := hr p q
    simp [asgn, wipe, hbox, hb, boxOf, hr', Int.zero_add]

/-! ### plain data of bounded depth -/
def gd : Nat → P → Bool
  | _, .none => true
  | _, .bool _ => true
  | _, .int _ => true
  | _, .str x => PyData.strOk x
  | _, .dict _ => false
  | 0, _ => false
  | n + 1, .list xs => decide (xs.length ≤ line) && xs.all (gd n)
  | n + 1, .tuple xs => decide (xs.length ≤ line) && xs.all (gd n)
theorem gd_list {n : Nat} {xs : List P} (h1 : xs.length ≤ line) (h2 : ∀ x ∈ xs, gd n x = true) : gd (n + 1) (.list xs) = true := by
  show (decide (xs.length ≤ line) && xs.all (gd n)) = true
  rw [Bool.and_eq_true, List.all_eq_true]
  exact ⟨decide_eq_true h1, h2⟩
theorem gd_tuple {n : Nat} {xs : List P} (h1 : xs.length ≤ line) (h2 : ∀ x ∈ xs, gd n x = true) : gd (n + 1) (.tuple xs) = true := by
  show (decide (xs.length ≤ line) && xs.all (gd n)) = true
  rw [Bool.and_eq_true, List.all_eq_true]
  exact ⟨decide_eq_true h1, h2⟩
theorem gd_list' {n : Nat} {xs : List P} (h : gd (n + 1) (.list xs) = true) : xs.length ≤ line ∧ ∀ x ∈ xs, gd n x = true := by
  have h : (decide (xs.length ≤ line) && xs.all (gd n)) = true := h
  rw [Bool.and_eq_true, List.all_eq_true] at h
  exact ⟨of_decide_eq_true h.1, h.2⟩
theorem gd_tuple' {n : Nat} {xs : List P} (h : gd (n + 1) (.tuple xs) = true) : xs.length ≤ line ∧ ∀ x ∈ xs, gd n x = true := by
  have h : (decide (xs.length ≤ line) && xs.all (gd n)) = true := h
  rw [Bool.and_eq_true, List.all_eq_true] at h
  exact ⟨of_decide_eq_true h.1, h.2⟩
theorem canAll {xs : List P} (h : ∀ x ∈ xs, PyData.canLay0 x = true) : PyData.canLayAll0 xs = true := by
  induction xs with
  | nil => simp [PyData.canLayAll0]
  | cons x xs ih =>
    rw [PyData.canLayAll0, h x List.mem_cons_self, ih fun y hy => h y (List.mem_cons_of_mem _ hy)] <;> rfl
theorem depAll {n : Nat} {xs : List P} (h : ∀ x ∈ xs, PyData.depth x ≤ n) : PyData.depthAll xs ≤ n := by
  induction xs with
  | nil => simp [PyData.depthAll]
  | cons x xs ih =>
    rw [PyData.depthAll]
    exact Nat.max_le.mpr ⟨h x List.mem_cons_self, ih fun y hy => h y (List.mem_cons_of_mem _ hy)⟩
theorem eqvAll_refl {xs : List P} (h : ∀ x ∈ xs, PyData.eqv x x = true) : PyData.eqvAll xs xs = true := by
  induction xs with
  | nil => simp [PyData.eqvAll]
  | cons x xs ih =>
    rw [PyData.eqvAll, h x List.mem_cons_self, ih fun y hy => h y (List.mem_cons_of_mem _ hy)] <;> rfl
theorem gd_all : ∀ (n : Nat) (d : P), gd n d = true → PyData.canLay0 d = true ∧ PyData.depth d ≤ n ∧ PyData.eqv d d = true
  | n, .none, _ => by simp [PyData.canLay0, PyData.depth, PyData.eqv]
  | n, .bool t, _ => by simp [PyData.canLay0, PyData.depth, PyData.eqv]
  | n, .int i, _ => by simp [PyData.canLay0, PyData.depth, PyData.eqv]
  | n, .str x, h => by
    have h : PyData.strOk x = true := by cases n <;> exact h
    simp [PyData.canLay0, PyData.depth, PyData.eqv, h]
  | n, .dict _, h => by cases n <;> cases h
  | 0, .list _, h => by cases h
  | 0, .tuple _, h => by cases h
  | n + 1, .list xs, h => by
    have h := (gd_list' h).2
    refine ⟨?_, ?_, ?_⟩
    · rw [PyData.canLay0]; exact canAll fun x hx => (gd_all n x (h x hx)).1
    · rw [PyData.depth]; exact Nat.succ_le_succ (depAll fun x hx => (gd_all n x (h x hx)).2.1)
    · rw [PyData.eqv]; exact eqvAll_refl fun x hx => (gd_all n x (h x hx)).2.2
  | n + 1, .tuple xs, h => by
    have h := (gd_tuple' h).2
    refine ⟨?_, ?_, ?_⟩
    · rw [PyData.canLay0]; exact canAll fun x hx => (gd_all n x (h x hx)).1
    · rw [PyData.depth]; exact Nat.succ_le_succ (depAll fun x hx => (gd_all n x (h x hx)).2.1)
    · rw [PyData.eqv]; exact eqvAll_refl fun x hx => (gd_all n x (h x hx)).2.2
theorem gd_shaped {n : Nat} {d : P} (h : gd n d = true) (hn : n ≤ 64) : SeqAt.shaped d = true := by
  obtain ⟨h1, h2, _⟩ := gd_all n d h
  unfold SeqAt.shaped
  rw [h1, decide_eq_true (Nat.le_trans h2 hn)] <;> rfl
theorem eq_refl {n : Nat} {d : P} (h : gd n d = true) (hn : n ≤ 64) : cmpD .eq d d = some true := by
  show eqD d d = _
  unfold eqD
  rw [gd_shaped h hn, (gd_all n d h).2.2] <;> rfl
theorem gd_nil : gd 1 (.list []) = true := rfl
theorem eq_nil {n : Nat} {xs : List P} (h : gd n (.list xs) = true) (hn : n ≤ 64) : cmpD .eq (.list xs) (.list []) = some xs.isEmpty := by
  show eqD _ _ = _
  unfold eqD
  rw [gd_shaped h hn, gd_shaped gd_nil (by decide)]
  cases xs <;> simp [PyData.eqv, PyData.eqvAll]
theorem ne_nil {n : Nat} {xs : List P} (h : gd n (.list xs) = true) (hn : n ≤ 64) : cmpD .ne (.list xs) (.list []) = some (!xs.isEmpty) := by
  have := eq_nil h hn
  unfold cmpD at this ⊢
  simp only at this ⊢
  rw [this] <;> rfl

/-! the same of a thing and itself -/
def sameIS (self : Nat) : IS := .seq (.iff (.isi .seq_ (.var 1)) (.seq (.iff (.or (.cmp .ne (.isi .list_ (.var 0)) (.isi .list_ (.var 1))) (.cmp .ne (.isi .tuple_ (.var 0)) (.isi .tuple_ (.var 1)))) (.seq (.ret (.cst (.bool false))) (.nop)) (.nop)) (.seq (.ret (.and (.cmp .eq (.bi .len (.cons (.var 0) (.nil))) (.bi .len (.cons (.var 1) (.nil)))) (.bi .all (.cons (.lc [2, 3] (.call self (.cons (.var 2) (.cons (.var 3) (.nil)))) (.tp (.cons (.nm 2) (.cons (.nm 3) (.nil)))) (.zip (.var 0) (.var 1)) (.cst (.bool true))) (.nil))))) (.nop))) (.nop)) (.seq (.iff (.or (.cmp .is_ (.var 1) (.cst .none)) (.isi .numstr (.var 1))) (.seq (.ret (.and (.cmp .eq (.var 0) (.var 1)) (.and (.cmp .eq (.isi .bool_ (.var 0)) (.isi .bool_ (.var 1))) (.cmp .eq (.cmp .is_ (.var 0) (.cst .none)) (.cmp .is_ (.var 1) (.cst .none)))))) (.nop)) (.nop)) (.seq (.ret (.and (.isi .int_ (.var 0)) (.and (.not (.isi .bool_ (.var 0))) (.cmp .eq (.var 0) (.var 1))))) (.nop)))
def sameF (self : Nat) : Fn := { ps := 2, bx := false, fr := false, slots := 4, body := sameIS self }
theorem zipD_self : ∀ xs : List P, zipD xs xs = xs.map fun x => .tuple [x, x]
  | [] => rfl
  | x :: xs => by
    show .tuple [x, x] :: zipD xs xs = _
    rw [zipD_self xs] <;> rfl
theorem same_ok {T : Nat → Option Fd} {self : Nat} (hT : T self = some (.code (sameF self))) : ∀ (n k : Nat) (d : P) (b : Bx), gd n d = true → n ≤ 64 → n < k → fnN T k self [d, d] b = .ok (.bool true) b := by
  intro n
  induction n with
  | zero =>
    intro k d b h hn hk
    obtain ⟨k, rfl⟩ : ∃ j, k = j + 1 := ⟨k - 1, by omega⟩
    rw [fn_run hT]
    refine run_rt rfl ?_
    cases d with
    | list xs => cases h
    | tuple xs => cases h
    | dict xs => cases h
    | none => simp [sameF, sameIS, ex, ev, startE, getV, isiD, eq_refl h hn, isNo]
    | bool t => simp [sameF, sameIS, ex, ev, startE, getV, isiD, isNo]
    | int i => simp [sameF, sameIS, ex, ev, startE, getV, isiD, isNo]
    | str x => simp [sameF, sameIS, ex, ev, startE, getV, isiD, eq_refl h hn, isNo]
  | succ n ih =>
    intro k d b h hn hk
    obtain ⟨k, rfl⟩ : ∃ j, k = j + 1 := ⟨k - 1, by omega⟩
    rw [fn_run hT]
    refine run_rt rfl ?_
    cases d with
    | dict xs => cases h
    | none => simp [sameF, sameIS, ex, ev, startE, getV, isiD, eq_refl h hn, isNo]
    | bool t => simp [sameF, sameIS, ex, ev, startE, getV, isiD, isNo]
    | int i => simp [sameF, sameIS, ex, ev, startE, getV, isiD, isNo]
    | str x => simp [sameF, sameIS, ex, ev, startE, getV, isiD, eq_refl h hn, isNo]
    | list xs =>
      obtain ⟨h1, h2⟩ := gd_list' h
      have hz : (zipD xs xs).length ≤ line := by rw [zipD_self, List.length_map]; exact h1
      simp [sameF, sameIS, ex, ev, startE, getV, isiD, zipV, hz, List.replicate]
      rw [zipD_self, lcL_map (g := fun _ => .bool true) (fun x hx => ?_)]
      · rw [map_const, List.length_map]
        simp [all_true]
      · obtain ⟨y, hy, rfl⟩ := List.mem_map.mp hx
        have := ih k y b0 (h2 y hy) (by omega) (by omega)
        simp [asgn, wipe, this]
    | tuple xs =>
      obtain ⟨h1, h2⟩ := gd_tuple' h
      have hz : (zipD xs xs).length ≤ line := by rw [zipD_self, List.length_map]; exact h1
      simp [sameF, sameIS, ex, ev, startE, getV, isiD, zipV, hz, List.replicate]
      rw [zipD_self, lcL_map (g := fun _ => .bool true) (fun x hx => ?_)]
      · rw [map_const, List.length_map]
        simp [all_true]
      · obtain ⟨y, hy, rfl⟩ := List.mem_map.mp hx
        have := ih k y b0 (h2 y hy) (by omega) (by omega)
        simp [asgn, wipe, this]

/-! lists in the place of tuples -/
def listsIS (self : Nat) : IS := .seq (.ret (.ite (.isi .seq_ (.var 0)) (.lc [1] (.call self (.cons (.var 1) (.nil))) (.nm 1) (.var 0) (.cst (.bool true))) (.var 0))) (.nop)
def listsF (self : Nat) : Fn := { ps := 1, bx := false, fr := false, slots := 2, body := listsIS self }
def toL : Nat → P → P
  | n + 1, .list xs => .list (xs.map (toL n))
  | n + 1, .tuple xs => .list (xs.map (toL n))
  | _, d => d
theorem lists_ok {T : Nat → Option Fd} {self : Nat} (hT : T self = some (.code (listsF self))) : ∀ (n k : Nat) (d : P) (b : Bx), gd n d = true → n < k → fnN T k self [d] b = .ok (toL n d) b := by
  intro n
  induction n with
  | zero =>
    intro k d b h hk
    obtain ⟨k, rfl⟩ : ∃ j, k = j + 1 := ⟨k - 1, by omega⟩
    rw [fn_run hT]
    refine run_rt rfl ?_
    cases d with
    | list xs => cases h
    | tuple xs => cases h
    | dict xs => cases h
    | _ => simp [listsF, listsIS, ex, ev, startE, getV, isiD, toL]
  | succ n ih =>
    intro k d b h hk
    obtain ⟨k, rfl⟩ : ∃ j, k = j + 1 := ⟨k - 1, by omega⟩
    rw [fn_run hT]
    refine run_rt rfl ?_
    cases d with
    | dict xs => cases h
    | list xs =>
      obtain ⟨h1, h2⟩ := gd_list' h
      simp [listsF, listsIS, ex, ev, startE, getV, isiD, h1]
      rw [lcL_map (g := toL n) (fun x hx => by simp [asgn, wipe, ih k x b0 (h2 x hx) (by omega)])]
      simp [toL]
    | tuple xs =>
      obtain ⟨h1, h2⟩ := gd_tuple' h
      simp [listsF, listsIS, ex, ev, startE, getV, isiD, h1]
      rw [lcL_map (g := toL n) (fun x hx => by simp [asgn, wipe, ih k x b0 (h2 x hx) (by omega)])]
      simp [toL]
    | _ => simp [listsF, listsIS, ex, ev, startE, getV, isiD, toL]

/-! one of a list -/
def ofF (take : Nat) : Fn := { ps := 1, bx := true, fr := false, slots := 2, body := .seq (.ret (.idx (.var 1) (.callB take (.cons (.bi .len (.cons (.var 1) (.nil))) (.nil))))) (.nop) }
theorem of_ok {φ φ' : Phi} {take : Nat} {xs : List P} {m : Nat} {b : Bx} (ht : ∀ as b, φ take as b = run φ' takeF as b) (h0 : 0 < xs.length) (h1 : xs.length < 1000) (hb : Bl (m + 1) b) : ∃ x b', run φ (ofF take) [.list xs] b = .ok x b' ∧ x ∈ xs ∧ Bl m b' := by
  obtain ⟨r, b', e, a1, a2, a3⟩ := take_ok (φ := φ') (n := (xs.length : Int)) (by omega) (by omega) hb
  have hr : r.toNat < xs.length := by omega
  refine ⟨xs[r.toNat], b', run_rt rfl ?_, List.getElem_mem hr, a3⟩
  have ei : idxD (.list xs) (.int r) = some xs[r.toNat] := by
    have t : r = ((r.toNat : Nat) : Int) := by omega
    have := L2.atI_nat (xs := xs) (j := r.toNat) (List.getElem?_eq_getElem hr)
    rw [← t] at this
    exact this
  simp [ofF, ex, ev, startE, getV, ht, e, ei]
end Dv
/-! text WP -/
set_option Elab.async false
set_option linter.all false
set_option maxRecDepth 100000
set_option maxHeartbeats 4000000
namespace Dv
open PySem

/-! ### what holds behind an expression, a statement -/
def We {α : Type} (r : R α) (Q : α → Bx → Prop) : Prop := match r with
  | .ok a b => Q a b
  | _ => False
def Wp (o : Out) (N : Env → Bx → Prop) (T : P → Bx → Prop) : Prop := match o with
  | .nx e b => N e b
  | .rt d b => T d b
  | _ => False
theorem We.imp {α : Type} {r : R α} {Q Q' : α → Bx → Prop} (h : We r Q) (i : ∀ a b, Q a b → Q' a b) : We r Q' := by
  cases r with
  | ok a b => exact i a b h
  | ex c d b => exact h
  | no => exact h
theorem Wp.imp {o : Out} {N N' : Env → Bx → Prop} {T T' : P → Bx → Prop} (h : Wp o N T) (i : ∀ e b, N e b → N' e b) (j : ∀ d b, T d b → T' d b) : Wp o N' T' := by
  cases o with
  | nx e b => exact i e b h
  | rt d b => exact j d b h
  | xx e c d b => exact h
  | no => exact h
theorem We.get {α : Type} {r : R α} {Q : α → Bx → Prop} (h : We r Q) : ∃ a b, r = .ok a b ∧ Q a b := by
  cases r with
  | ok a b => exact ⟨a, b, rfl, h⟩
  | ex c d b => exact h.elim
  | no => exact h.elim
theorem We.of_eq {α : Type} {r : R α} {a : α} {b : Bx} {Q : α → Bx → Prop} (e : r = .ok a b) (h : Q a b) : We r Q := by rw [e]; exact h
theorem We.noex {α : Type} {r : R α} {Q : α → Bx → Prop} (h : We r Q) : We (R.noex r) Q := by
  cases r with
  | ok a b => exact h
  | ex c d b => exact h.elim
  | no => exact h.elim
theorem We.bind {α β : Type} {r : R α} {f : α → Bx → R β} {Q : β → Bx → Prop} (h : We r fun a b => We (f a b) Q) : We (r.bind f) Q := by
  cases r with
  | ok a b => exact h
  | ex c d b => exact h.elim
  | no => exact h.elim
theorem We.eq {α : Type} {r : R α} {a : α} {b : Bx} (h : We r fun a' b' => a' = a ∧ b' = b) : r = .ok a b := by
  obtain ⟨a', b', e, rfl, rfl⟩ := h.get
  exact e
@[simp] theorem We_ok {α : Type} {a : α} {b : Bx} {Q : α → Bx → Prop} : We (.ok a b) Q = Q a b := rfl
@[simp] theorem Wp_nx {e : Env} {b : Bx} {N : Env → Bx → Prop} {T : P → Bx → Prop} : Wp (.nx e b) N T = N e b := rfl
@[simp] theorem Wp_rt {d : P} {b : Bx} {N : Env → Bx → Prop} {T : P → Bx → Prop} : Wp (.rt d b) N T = T d b := rfl
section
variable {φ : Phi} {e : Env} {b : Bx} {N : Env → Bx → Prop} {T : P → Bx → Prop} {x y : IS} {c it : IE}
theorem out_we {α : Type} {r : R α} {f : α → Bx → Out} (h : We r fun a b1 => Wp (f a b1) N T) : Wp (r.out e f) N T := by
  cases r with
  | ok a b => exact h
  | ex c d b => exact h.elim
  | no => exact h.elim
theorem wp_seq (h : Wp (ex φ x e b) (fun e1 b1 => Wp (ex φ y e1 b1) N T) T) : Wp (ex φ (.seq x y) e b) N T := by
  show Wp ((ex φ x e b).bind fun e1 b1 => ex φ y e1 b1) N T
  cases q : ex φ x e b with
  | nx e1 b1 => rw [q] at h; exact h
  | rt d b1 => rw [q] at h; exact h
  | xx e1 c d b1 => rw [q] at h; exact h.elim
  | no => rw [q] at h; exact h.elim
theorem wp_nop (h : N e b) : Wp (ex φ .nop e b) N T := h
theorem wp_set {i : Nat} {ow : Bool} (h : We (ev φ c e b) fun d b1 => N (e.set i (mkSl ow d)) b1) : Wp (ex φ (.set i ow c) e b) N T := out_we h
theorem wp_sett {tg : Tg} (h : We (ev φ c e b) fun d b1 => ∃ e', asgn tg d e = some e' ∧ N e' b1) : Wp (ex φ (.sett tg c) e b) N T := out_we (h.imp fun d b1 ⟨e', h1, h2⟩ => by rw [h1]; exact h2)
theorem wp_ret (h : We (ev φ c e b) T) : Wp (ex φ (.ret c) e b) N T := out_we h
theorem wp_app {i : Nat} {xs : List P} (h0 : getO e i = some (.list xs)) (h : We (ev φ c e b) fun d b1 => xs.length < line ∧ N (e.set i (.o (.list (xs ++ [d])))) b1) : Wp (ex φ (.app i c) e b) N T := by
  show Wp (match getO e i with | some (.list xs) => (ev φ c e b).out e fun d b1 => if xs.length < line then Out.nx (e.set i (.o (.list (xs ++ [d])))) b1 else .no | _ => .no) N T
  rw [h0]
  exact out_we (h.imp fun d b1 ⟨h1, h2⟩ => by rw [if_pos h1]; exact h2)
theorem wp_if (h : We (ev φ c e b) fun d b1 => (truD d = some true ∧ Wp (ex φ x e b1) N T) ∨ (truD d = some false ∧ Wp (ex φ y e b1) N T)) : Wp (ex φ (.iff c x y) e b) N T := by
  show Wp ((tru φ c e b).out e fun t b1 => if t then ex φ x e b1 else ex φ y e b1) N T
  refine out_we ?_
  rw [tru_eq]
  refine We.bind (h.imp fun d b1 h => ?_)
  rcases h with ⟨h1, h2⟩ | ⟨h1, h2⟩
  · rw [h1]; exact h2
  · rw [h1]; exact h2
/-- a walk with an invariant -/
theorem wp_forL {body : P → Env → Bx → Out} {I : List P → Env → Bx → Prop} (hs : ∀ x xs e b, I (x :: xs) e b → Wp (body x e b) (I xs) T) (he : ∀ e b, I [] e b → N e b) : ∀ xs e b, I xs e b → Wp (forL body xs e b) N T
  | [], e, b, h => he e b h
  | x :: xs, e, b, h => by
    show Wp ((body x e b).bind fun e1 b1 => forL body xs e1 b1) N T
    have h1 := hs x xs e b h
    cases q : body x e b with
    | nx e1 b1 => rw [q] at h1; exact wp_forL hs he xs e1 b1 h1
    | rt d b1 => rw [q] at h1; exact h1
    | xx e1 c d b1 => rw [q] at h1; exact h1.elim
    | no => rw [q] at h1; exact h1.elim
theorem wp_for {tg : Tg} (I : List P → Env → Bx → Prop) (hi : We (ev φ it e b) fun d b1 => ∃ xs, itemsD d = some xs ∧ I xs e b1)
    (hs : ∀ x xs e b, I (x :: xs) e b → ∃ e', asgn tg x e = some e' ∧ Wp (ex φ y e' b) (I xs) T) (he : ∀ e b, I [] e b → N e b) : Wp (ex φ (.forr tg it y) e b) N T := by
  refine out_we (hi.imp fun d b1 ⟨xs, h1, h2⟩ => ?_)
  rw [h1]
  refine wp_forL (I := I) (fun x xs e b h => ?_) he xs e b1 h2
  obtain ⟨e', h3, h4⟩ := hs x xs e b h
  rw [h3]
  exact h4
/-- a def's run -/
theorem we_run {f : Fn} {as : List P} {Q : P → Bx → Prop} (h : as.length = f.ps) (q : Wp (ex φ f.body (startE f.bx f.slots as) b) (fun _ b1 => Q .none b1) Q) : We (run φ f as b) Q := by
  unfold run
  rw [if_pos h]
  cases q2 : ex φ f.body (startE f.bx f.slots as) b with
  | nx e1 b1 => rw [q2] at q; exact q
  | rt d b1 => rw [q2] at q; exact q
  | xx e1 c d b1 => rw [q2] at q; exact q.elim
  | no => rw [q2] at q; exact q.elim
/-! one step of an expression -/
theorem ev_nil : ev φ .nil e b = .ok (.list []) b := rfl
theorem ev_cons {x xs : IE} : ev φ (.cons x xs) e b = (ev φ x e b).bind fun d b1 => (ev φ xs e b1).bind fun ds b2 => .ok (.list (d :: argsOf ds)) b2 := rfl
theorem ev_tup {xs : IE} : ev φ (.tup xs) e b = (ev φ xs e b).bind fun ds b1 => if (argsOf ds).length ≤ line then .ok (.tuple (argsOf ds)) b1 else .no := rfl
theorem ev_lst {xs : IE} : ev φ (.lst xs) e b = (ev φ xs e b).bind fun ds b1 => if (argsOf ds).length ≤ line then .ok (.list (argsOf ds)) b1 else .no := rfl
theorem ev_var {i : Nat} : ev φ (.var i) e b = R.ofO (getV e i) b := rfl
theorem ev_ovar {i : Nat} : ev φ (.ovar i) e b = R.ofO (getO e i) b := rfl
theorem ev_cst {d : P} : ev φ (.cst d) e b = .ok d b := rfl
theorem ev_glob {d : P} : ev φ (.glob d) e b = .ok d b := rfl
theorem ev_bin {op : Op} {x y : IE} : ev φ (.bin op x y) e b = (ev φ x e b).bind fun d b1 => (ev φ y e b1).bind fun d' b2 => R.ofO (binD op d d') b2 := rfl
theorem ev_cmp {op : Cp} {x y : IE} : ev φ (.cmp op x y) e b = (ev φ x e b).bind fun d b1 => (ev φ y e b1).bind fun d' b2 => R.ofO ((cmpD op d d').map .bool) b2 := rfl
theorem ev_not {x : IE} : ev φ (.not x) e b = (ev φ x e b).bind fun d b1 => R.ofO ((truD d).map fun t => .bool (!t)) b1 := rfl
theorem ev_idx {x i : IE} : ev φ (.idx x i) e b = (ev φ x e b).bind fun d b1 => (ev φ i e b1).bind fun d' b2 => R.ofO (idxD d d') b2 := rfl
theorem ev_bi {p : Bi} {as : IE} : ev φ (.bi p as) e b = (ev φ as e b).bind fun ds b1 => R.ofO (biD p (argsOf ds)) b1 := rfl
theorem ev_call {f : Nat} {as : IE} : ev φ (.call f as) e b = (ev φ as e b).bind fun ds b1 => match φ f (argsOf ds) b0 with
    | .ok d _ => .ok d b1
    | .ex c d _ => .ex c d b1
    | .no => .no := rfl
theorem ev_callB {f : Nat} {as : IE} : ev φ (.callB f as) e b = (ev φ as e b).bind fun ds b1 => φ f (argsOf ds) b1 := rfl
theorem ev_rng {as : IE} : ev φ (.rng as) e b = (ev φ as e b).bind fun ds b1 => R.ofO ((rngD (argsOf ds)).map .list) b1 := rfl
theorem ev_enm {a : IE} : ev φ (.enm a) e b = (ev φ a e b).bind fun d b1 => R.ofO ((enumV d).map .list) b1 := rfl
theorem ev_zip {x y : IE} : ev φ (.zip x y) e b = (ev φ x e b).bind fun d b1 => (ev φ y e b1).bind fun d' b2 => R.ofO ((zipV d d').map .list) b2 := rfl
/-! comprehensions -/
theorem we_lcL {turn : P → Bx → R (List P)} {I : List P → List P → Bx → Prop} {Q : List P → Bx → Prop} (hs : ∀ x xs acc b, I (x :: xs) acc b → We (turn x b) fun ys b1 => I xs (acc ++ ys) b1) (he : ∀ acc b, I [] acc b → Q acc b) : ∀ xs acc b, I xs acc b → We (lcL turn xs b) fun ys b1 => Q (acc ++ ys) b1
  | [], acc, b, h => by
    show Q (acc ++ []) b
    rw [List.append_nil]
    exact he acc b h
  | x :: xs, acc, b, h => by
    show We ((turn x b).bind fun ys b1 => (lcL turn xs b1).bind fun zs b2 => .ok (ys ++ zs) b2) _
    refine We.bind ((hs x xs acc b h).imp fun ys b1 h1 => We.bind ((we_lcL hs he xs (acc ++ ys) b1 h1).imp fun zs b2 h2 => ?_))
    show Q (acc ++ (ys ++ zs)) b2
    rw [← List.append_assoc]
    exact h2
/-- [elt for .. in ..], each item gives one, perhaps by draws -/
theorem we_lc {own : List Nat} {elt ifs : IE} {tg : Tg} {Q : P → Bx → Prop} (I : List P → List P → Bx → Prop) (hi : We (ev φ it e b) fun d b1 => ∃ xs, itemsD d = some xs ∧ xs.length ≤ line ∧ I xs [] b1)
    (hs : ∀ x xs acc b, I (x :: xs) acc b → ∃ e', asgn tg x (wipe e own) = some e' ∧ We (ev φ ifs e' b) fun t b1 => (truD t = some true ∧ We (ev φ elt e' b1) fun y b2 => I xs (acc ++ [y]) b2) ∨ (truD t = some false ∧ I xs acc b1))
    (he : ∀ acc b, I [] acc b → Q (.list acc) b) : We (ev φ (.lc own elt tg it ifs) e b) Q := by
  show We ((ev φ it e b).bind fun d b1 => match itemsD d with
    | none => .no
    | some xs => if xs.length ≤ line then (lcL (lcTurn φ own elt tg ifs e) xs b1).bind fun ys b2 => .ok (.list ys) b2 else .no) Q
  refine We.bind (hi.imp fun d b1 ⟨xs, h1, h2, h3⟩ => ?_)
  rw [h1]
  show We (if xs.length ≤ line then _ else R.no) Q
  rw [if_pos h2]
  refine We.bind ((we_lcL (I := I) (Q := fun acc b => Q (.list acc) b) (fun x xs acc b h => ?_) he xs [] b1 h3).imp fun ys b2 h4 => h4)
  obtain ⟨e', h5, h6⟩ := hs x xs acc b h
  unfold lcTurn
  rw [h5]
  have go : We ((ev φ ifs e' b).bind fun t b2 => match truD t with
      | some true => (ev φ elt e' b2).bind fun y b3 => .ok [y] b3
      | some false => .ok [] b2
      | none => .no) (fun ys b1 => I xs (acc ++ ys) b1) := by
    refine We.bind (h6.imp fun t b2 h7 => ?_)
    rcases h7 with ⟨h7, h8⟩ | ⟨h7, h8⟩
    · rw [h7]
      exact We.bind h8
    · rw [h7]
      show I xs (acc ++ []) b2
      rw [List.append_nil]
      exact h8
  exact We.noex go
/-- two clauses, nothing drawn -/
theorem ev_lc2 {φ : Phi} {it : IE} {e : Env} {b : Bx} {own own2 : List Nat} {elt ifs it2 ifs2 : IE} {tg tg2 : Tg} {b1 : Bx} {d : P} {α β : Type} {xs : List α} {f : α → P} {ys : α → List β} {f2 : β → P} {g : α → β → P} (hi : ev φ it e b = .ok d b1) (hd : itemsD d = some (xs.map f)) (hl : (xs.flatMap fun x => (ys x).map (g x)).length ≤ line)
    (h : ∀ x ∈ xs, ∃ e', asgn tg (f x) (wipe e own) = some e' ∧ ev φ ifs e' b1 = .ok (.bool true) b1 ∧ ∃ d2, ev φ it2 e' b1 = .ok d2 b1 ∧ itemsD d2 = some ((ys x).map f2) ∧ ∀ y ∈ ys x, ∃ e'', asgn tg2 (f2 y) (wipe e' own2) = some e'' ∧ ev φ ifs2 e'' b1 = .ok (.bool true) b1 ∧ ev φ elt e'' b1 = .ok (g x y) b1) :
    ev φ (.lc2 own own2 elt tg it ifs tg2 it2 ifs2) e b = R.ok (PyData.list (xs.flatMap fun x => (ys x).map (g x))) b1 := by
  show ((ev φ it e b).bind fun d b1 => match itemsD d with
    | none => .no
    | some xs => (lcL (fun x b => R.noex (match asgn tg x (wipe e own) with
        | none => .no
        | some e' => (ev φ ifs e' b).bind fun t b2 => match truD t with
          | some true => (ev φ it2 e' b2).bind fun d2 b3 => match itemsD d2 with
            | none => .no
            | some zs => lcL (fun z b => match asgn tg2 z (wipe e' own2) with
              | none => .no
              | some e'' => (ev φ ifs2 e'' b).bind fun t b2 => match truD t with
                | some true => (ev φ elt e'' b2).bind fun y b3 => .ok [y] b3
                | some false => .ok [] b2
                | none => .no) zs b3
          | some false => .ok [] b2
          | none => .no)) xs b1).bind fun ys b2 => if ys.length ≤ line then R.ok (PyData.list ys) b2 else R.no) = _
  rw [hi, bind_ok, hd]
  generalize hturn : (fun x b => R.noex (match asgn tg x (wipe e own) with
        | none => R.no
        | some e' => (ev φ ifs e' b).bind fun t b2 => match truD t with
          | some true => (ev φ it2 e' b2).bind fun d2 b3 => match itemsD d2 with
            | none => R.no
            | some zs => lcL (fun z b => match asgn tg2 z (wipe e' own2) with
              | none => R.no
              | some e'' => (ev φ ifs2 e'' b).bind fun t b2 => match truD t with
                | some true => (ev φ elt e'' b2).bind fun y b3 => R.ok [y] b3
                | some false => R.ok [] b2
                | none => R.no) zs b3
          | some false => R.ok [] b2
          | none => R.no)) = turn
  have key : ∀ x ∈ xs, turn (f x) b1 = .ok ((ys x).map (g x)) b1 := fun x hx => by
    obtain ⟨e', h1, h2, d2, h3, h4, h5⟩ := h x hx
    rw [← hturn]
    show R.noex (match asgn tg (f x) (wipe e own) with
        | none => R.no
        | some e' => _) = _
    rw [h1]
    show R.noex ((ev φ ifs e' b1).bind _) = _
    rw [h2, bind_ok, truD_bool]
    show R.noex ((ev φ it2 e' b1).bind _) = _
    rw [h3, bind_ok, h4]
    show R.noex (lcL _ ((ys x).map f2) b1) = _
    rw [lcL_map_map (g := g x) (fun y hy => by
      obtain ⟨e'', h6, h7, h8⟩ := h5 y hy
      show (match asgn tg2 (f2 y) (wipe e' own2) with
              | none => R.no
              | some e'' => (ev φ ifs2 e'' b1).bind fun t b2 => match truD t with
                | some true => (ev φ elt e'' b2).bind fun y b3 => R.ok [y] b3
                | some false => R.ok [] b2
                | none => R.no) = _
      rw [h6]
      show (ev φ ifs2 e'' b1).bind _ = _
      rw [h7, bind_ok, truD_bool]
      show (ev φ elt e'' b1).bind _ = _
      rw [h8] <;> rfl)]
    rfl
  have all : ∀ (xs : List α), (∀ x ∈ xs, turn (f x) b1 = .ok ((ys x).map (g x)) b1) → lcL turn (xs.map f) b1 = .ok (xs.flatMap fun x => (ys x).map (g x)) b1 := fun xs => by
    induction xs with
    | nil => exact fun _ => rfl
    | cons x xs ih =>
      intro H
      rw [List.map_cons]
      show (turn (f x) b1).bind _ = _
      rw [H x List.mem_cons_self]
      show (lcL turn (xs.map f) b1).bind _ = _
      rw [ih fun z hz => H z (List.mem_cons_of_mem _ hz)]
      rfl
  show (lcL turn (xs.map f) b1).bind _ = _
  rw [all xs key]
  show (if (xs.flatMap fun x => (ys x).map (g x)).length ≤ line then _ else R.no) = _
  rw [if_pos hl]
end
end Dv
/-! text CM -/
set_option Elab.async false
set_option linter.all false
set_option maxRecDepth 100000
set_option maxHeartbeats 4000000
namespace Dv
open PySem

/-! ### each once -/
def dedG {α : Type} [DecidableEq α] : List α → List α → List α
  | acc, [] => acc
  | acc, x :: xs => dedG (if acc.any fun y => decide (y = x) then acc else acc ++ [x]) xs
theorem dedG_mem {α : Type} [DecidableEq α] (z : α) : ∀ (xs acc : List α), z ∈ dedG acc xs ↔ z ∈ acc ∨ z ∈ xs
  | [], acc => by simp [dedG]
  | x :: xs, acc => by
    rw [dedG, dedG_mem z xs]
    by_cases q : (acc.any fun y => decide (y = x)) = true
    · rw [if_pos q]
      simp only [List.any_eq_true, decide_eq_true_eq] at q
      obtain ⟨y, hy, rfl⟩ := q
      constructor
      · rintro (h | h)
        · exact .inl h
        · exact .inr (List.mem_cons_of_mem _ h)
      · rintro (h | h)
        · exact .inl h
        · rcases List.mem_cons.mp h with rfl | h
          · exact .inl hy
          · exact .inr h
    · rw [if_neg q]
      rw [List.mem_append, List.mem_singleton, List.mem_cons, or_assoc]
theorem dedG_nodup {α : Type} [DecidableEq α] : ∀ (xs acc : List α), acc.Nodup → (dedG acc xs).Nodup
  | [], acc, h => h
  | x :: xs, acc, h => by
    rw [dedG]
    refine dedG_nodup xs _ ?_
    by_cases q : (acc.any fun y => decide (y = x)) = true
    · rw [if_pos q]; exact h
    · rw [if_neg q]
      refine List.nodup_append.mpr ⟨h, by simp, fun a ha b hb => ?_⟩
      rw [List.mem_singleton] at hb
      subst hb
      intro e
      subst e
      exact q (List.any_eq_true.mpr ⟨a, ha, by simp⟩)
theorem ded_map {α : Type} [DecidableEq α] {c : α → P} (hc : ∀ x y, keyEq0 (c x) (c y) = decide (x = y)) : ∀ (xs acc : List α), dedD (acc.map c) (xs.map c) = (dedG acc xs).map c
  | [], acc => rfl
  | x :: xs, acc => by
    rw [dedG, List.map_cons, dedD, ← ded_map hc xs]
    have e : ((acc.map c).any fun y => keyEq0 y (c x)) = acc.any fun y => decide (y = x) := by
      rw [List.any_map]
      congr 1
      funext y
      exact hc y x
    rw [e]
    by_cases q : (acc.any fun y => decide (y = x)) = true
    · rw [if_pos q, if_pos q]
    · rw [if_neg q, if_neg q, List.map_append]; rfl
theorem keyEq0_s (x y : Str) : keyEq0 (.str x) (.str y) = decide (x = y) := rfl
theorem keyEq0_i (x y : Int) : keyEq0 (.int x) (.int y) = decide (x = y) := rfl

/-! ### sorted -/
def insG {α : Type} (c : α → P) (x : α) : List α → List α
  | [] => [x]
  | y :: ys => if leD (c x) (c y) then x :: y :: ys else y :: insG c x ys
def sortG {α : Type} (c : α → P) : List α → List α
  | [] => []
  | x :: xs => insG c x (sortG c xs)
theorem insG_map {α : Type} (c : α → P) (x : α) : ∀ ys : List α, insD leD (c x) (ys.map c) = (insG c x ys).map c
  | [] => rfl
  | y :: ys => by
    rw [List.map_cons, insD, insG]
    by_cases q : leD (c x) (c y) = true
    · rw [if_pos q, if_pos q]; rfl
    · rw [if_neg q, if_neg q, insG_map c x ys]; rfl
theorem sortG_map {α : Type} (c : α → P) : ∀ xs : List α, sortD leD (xs.map c) = (sortG c xs).map c
  | [] => rfl
  | x :: xs => by
    rw [List.map_cons, sortD, sortG, sortG_map c xs, insG_map]
theorem insG_perm {α : Type} (c : α → P) (x : α) : ∀ ys : List α, (insG c x ys).Perm (x :: ys)
  | [] => .refl _
  | y :: ys => by
    rw [insG]
    by_cases q : leD (c x) (c y) = true
    · rw [if_pos q]
    · rw [if_neg q]
      exact ((insG_perm c x ys).cons y).trans (.swap x y ys)
theorem sortG_perm {α : Type} (c : α → P) : ∀ xs : List α, (sortG c xs).Perm xs
  | [] => .refl _
  | x :: xs => (insG_perm c x _).trans ((sortG_perm c xs).cons x)
/-- each name once, in order -/
def ppl (ns : List Str) : List Str := sortG .str (dedG [] ns)
def nums (ns : List Int) : List Int := sortG .int (dedG [] ns)
theorem ppl_nodup (ns : List Str) : (ppl ns).Nodup := (sortG_perm _ _).nodup_iff.mpr (dedG_nodup _ _ List.nodup_nil)
theorem ppl_mem {ns : List Str} {x : Str} : x ∈ ppl ns ↔ x ∈ ns := by
  unfold ppl
  rw [(sortG_perm _ _).mem_iff, dedG_mem]
  simp
theorem nums_nodup (ns : List Int) : (nums ns).Nodup := (sortG_perm _ _).nodup_iff.mpr (dedG_nodup _ _ List.nodup_nil)
theorem nums_mem {ns : List Int} {x : Int} : x ∈ nums ns ↔ x ∈ ns := by
  unfold nums
  rw [(sortG_perm _ _).mem_iff, dedG_mem]
  simp
theorem sortset_s {ns : List Str} (h : ns.length ≤ 4000) : sortsetD (ns.map .str) = some (.list ((ppl ns).map .str)) := by
  unfold sortsetD
  rw [if_pos, show dedD [] (ns.map PyData.str) = _ from ded_map (c := .str) keyEq0_s ns [], sortG_map]
  · rfl
  · simp only [allAlike, Bool.and_eq_true, List.all_map, List.all_eq_true, List.length_map]
    exact ⟨⟨fun x _ => rfl, fun x _ => List.all_eq_true.mpr fun y _ => by simp [PySem.W.alike]⟩, Nat.ble_eq_true_of_le h⟩
theorem sortset_i {ns : List Int} (h : ns.length ≤ 4000) : sortsetD (ns.map .int) = some (.list ((nums ns).map .int)) := by
  unfold sortsetD
  rw [if_pos, show dedD [] (ns.map PyData.int) = _ from ded_map (c := .int) keyEq0_i ns [], sortG_map]
  · rfl
  · simp only [allAlike, Bool.and_eq_true, List.all_map, List.all_eq_true, List.length_map]
    exact ⟨⟨fun x _ => rfl, fun x _ => List.all_eq_true.mpr fun y _ => by simp [PySem.W.alike]⟩, Nat.ble_eq_true_of_le h⟩
theorem lenset_i {ns : List Int} (h : ns.length ≤ 4000) : lensetD (ns.map .int) = some (.int (nums ns).length) := by
  unfold lensetD
  rw [if_pos, show dedD [] (ns.map PyData.int) = _ from ded_map (c := .int) keyEq0_i ns [], List.length_map]
  · unfold nums
    rw [(sortG_perm _ _).length_eq]
  · simp only [Bool.and_eq_true, List.all_map, List.all_eq_true, List.length_map]
    exact ⟨fun x _ => rfl, Nat.ble_eq_true_of_le h⟩
/-- the numbers from 0 on, each at least once -/
theorem nums_full {B : List Int} {n : Nat} (h : ∀ j : Int, j ∈ B ↔ 0 ≤ j ∧ j < n) : (nums B).length = n := by
  have p : (nums B).Perm ((List.range n).map fun (i : Nat) => (i : Int)) := by
    refine (List.perm_ext_iff_of_nodup (nums_nodup B) ?_).mpr fun j => ?_
    · refine (List.nodup_range).map _ fun a b hab e => hab (by omega)
    · rw [nums_mem, h, List.mem_map]
      constructor
      · intro ⟨h1, h2⟩
        exact ⟨j.toNat, List.mem_range.mpr (by omega), by omega⟩
      · rintro ⟨i, hi, rfl⟩
        have := List.mem_range.mp hi
        omega
  rw [p.length_eq]
  simp

/-! ### lists or tuples -/
def SeqR (d : P) (xs : List P) : Prop := d = .list xs ∨ d = .tuple xs
theorem SeqR.items {d : P} {xs : List P} (h : SeqR d xs) : itemsD d = some xs := by
  rcases h with rfl | rfl <;> rfl
theorem SeqR.itemsLT {d : P} {xs : List P} (h : SeqR d xs) : itemsLT d = some xs := by
  rcases h with rfl | rfl <;> rfl
theorem SeqR.idx {d : P} {xs : List P} (h : SeqR d xs) {k : Nat} {x : P} (e : xs[k]? = some x) : idxD d (.int (k : Int)) = some x := by
  rcases h with rfl | rfl <;> exact L2.atI_nat e
theorem SeqR.list {d : P} {xs : List P} (h : SeqR d xs) : biD .list_ [d] = some (.list xs) := by
  rcases h with rfl | rfl <;> rfl
theorem SeqR.tuple {d : P} {xs : List P} (h : SeqR d xs) : biD .tuple_ [d] = some (.tuple xs) := by
  rcases h with rfl | rfl <;> rfl
theorem SeqR.len {d : P} {xs : List P} (h : SeqR d xs) : lenD d = some (xs.length : Int) := by
  rcases h with rfl | rfl <;> rfl
theorem SeqR.sortset {d : P} {xs : List P} (h : SeqR d xs) : biD .sortset [d] = sortsetD xs := by
  rcases h with rfl | rfl <;> rfl
theorem SeqR.lenset {d : P} {xs : List P} (h : SeqR d xs) : biD .lenset [d] = lensetD xs := by
  rcases h with rfl | rfl <;> rfl
theorem ints_map : ∀ ns : List Int, intsOf (ns.map .int) = some ns
  | [] => rfl
  | n :: ns => by
    show (intsOf (ns.map .int)).map (n :: ·) = _
    rw [ints_map ns]; rfl
theorem SeqR.sum {d : P} {ns : List Int} (h : SeqR d (ns.map .int)) : biD .sum [d] = some (.int ns.sum) := by
  rcases h with rfl | rfl
  · show (intsOf (ns.map .int)).map _ = _
    rw [ints_map]; rfl
  · show (intsOf (ns.map .int)).map _ = _
    rw [ints_map]; rfl
theorem sum_l (ns : List Int) : biD .sum [.list (ns.map .int)] = some (.int ns.sum) := SeqR.sum (.inl rfl)
theorem sum_t (ns : List Int) : biD .sum [.tuple (ns.map .int)] = some (.int ns.sum) := SeqR.sum (.inr rfl)

/-! ### debts, amounts -/
abbrev nil2 : Str × Str := (⟨#[]⟩, ⟨#[]⟩)
def dfr (D : List (Str × Str)) (k : Nat) : Str := (D.getD k nil2).1
def dto (D : List (Str × Str)) (k : Nat) : Str := (D.getD k nil2).2
def amt (A : List Int) (k : Nat) : Int := A.getD k 0
def DebtsR (d : P) (D : List (Str × Str)) : Prop := ∃ xs, SeqR d xs ∧ xs.length = D.length ∧ ∀ k, k < D.length → ∃ x, xs[k]? = some x ∧ SeqR x [.str (dfr D k), .str (dto D k)]
def dT (D : List (Str × Str)) : P := .tuple (D.map fun p => .tuple [.str p.1, .str p.2])
def dL (D : List (Str × Str)) : P := .list (D.map fun p => .list [.str p.1, .str p.2])
theorem dfr_at {D : List (Str × Str)} {k : Nat} {p : Str × Str} (h : D[k]? = some p) : dfr D k = p.1 ∧ dto D k = p.2 := by
  unfold dfr dto
  rw [List.getD_eq_getElem?_getD, h]
  exact ⟨rfl, rfl⟩
theorem dT_r (D : List (Str × Str)) : DebtsR (dT D) D := by
  refine ⟨_, .inr rfl, by simp, fun k hk => ⟨_, by rw [List.getElem?_map, List.getElem?_eq_getElem hk]; rfl, .inr ?_⟩⟩
  obtain ⟨e1, e2⟩ := dfr_at (List.getElem?_eq_getElem hk)
  rw [e1, e2]
theorem dL_r (D : List (Str × Str)) : DebtsR (dL D) D := by
  refine ⟨_, .inl rfl, by simp, fun k hk => ⟨_, by rw [List.getElem?_map, List.getElem?_eq_getElem hk]; rfl, .inl ?_⟩⟩
  obtain ⟨e1, e2⟩ := dfr_at (List.getElem?_eq_getElem hk)
  rw [e1, e2]
theorem DebtsR.at {d : P} {D : List (Str × Str)} (h : DebtsR d D) {k : Nat} (hk : k < D.length) : ∃ x, idxD d (.int (k : Int)) = some x ∧ SeqR x [.str (dfr D k), .str (dto D k)] := by
  obtain ⟨xs, h1, h2, h3⟩ := h
  obtain ⟨x, h4, h5⟩ := h3 k hk
  exact ⟨x, h1.idx h4, h5⟩
theorem SeqR.i0 {d x y : P} {r : List P} (h : SeqR d (x :: r)) : idxD d (.int 0) = some x := h.idx (k := 0) rfl
theorem SeqR.i1 {d x y : P} {r : List P} (h : SeqR d (x :: y :: r)) : idxD d (.int 1) = some y := h.idx (k := 1) rfl
theorem amt_idx {a : P} {A : List Int} (h : SeqR a (A.map .int)) {k : Nat} (hk : k < A.length) : idxD a (.int (k : Int)) = some (.int (amt A k)) := by
  refine h.idx ?_
  rw [List.getElem?_map, List.getElem?_eq_getElem hk]
  unfold amt
  rw [List.getD_eq_getElem?_getD, List.getElem?_eq_getElem hk]
  rfl
/-- numbers as data -/
def nI (k : Nat) : P := .int (k : Int)
theorem tupN_eq (l : List Nat) : tupN l = .tuple (l.map nI) := rfl

/-! ### the set, the pots -/
section
variable {φ φ' : Phi} {b : Bx} {d : P}
def setOfF : Fn := { ps := 1, bx := false, fr := false, slots := 1, body := .seq (.ret (.bi .tuple_ (.cons (.bi .sortset (.cons (.var 0) (.nil))) (.nil)))) (.nop) }
theorem tuple_l (xs : List P) : biD .tuple_ [.list xs] = some (.tuple xs) := rfl
theorem set_s {ns : List Str} (h : SeqR d (ns.map .str)) (hl : ns.length ≤ 4000) : run φ setOfF [d] b = .ok (.tuple ((ppl ns).map .str)) b := by
  refine run_rt rfl ?_
  simp [setOfF, ex, ev, startE, getV, h.sortset, sortset_s hl, tuple_l]
theorem set_i {ns : List Int} (h : SeqR d (ns.map .int)) (hl : ns.length ≤ 4000) : run φ setOfF [d] b = .ok (.tuple ((nums ns).map .int)) b := by
  refine run_rt rfl ?_
  simp [setOfF, ex, ev, startE, getV, h.sortset, sortset_i hl, tuple_l]
def plc : Nat → List Int → Nat → List Nat
  | _, [], _ => []
  | i, k :: B, j => if k = (j : Int) then i :: plc (i + 1) B j else plc (i + 1) B j
theorem pots_L : ∀ (B : List Int) (i : Nat) (acc : List (List Nat)), (∀ k ∈ B, 0 ≤ k ∧ k < acc.length) → potsL i (B.map .int) acc = some (acc.mapIdx fun j l => l ++ plc i B j)
  | [], i, acc, _ => by
    show some acc = _
    congr 1
    apply List.ext_getElem
    · simp
    · intro j h1 h2
      simp [plc]
  | k :: B, i, acc, h => by
    obtain ⟨h1, h2⟩ := h k List.mem_cons_self
    have hk : k.toNat < acc.length := by omega
    show (if 0 ≤ k then (match acc[k.toNat]? with | some l => potsL (i + 1) (B.map .int) (acc.set k.toNat (l ++ [i])) | none => none) else none) = _
    rw [if_pos h1, List.getElem?_eq_getElem hk]
    show potsL (i + 1) (B.map .int) (acc.set k.toNat (acc[k.toNat] ++ [i])) = _
    rw [pots_L B (i + 1) _ (fun k' hk' => by rw [List.length_set]; exact h k' (List.mem_cons_of_mem _ hk'))]
    congr 1
    apply List.ext_getElem
    · simp
    · intro j hj1 hj2
      have hj : j < acc.length := by simpa using hj2
      rw [List.getElem_mapIdx, List.getElem_mapIdx, List.getElem_set, plc]
      by_cases q : k.toNat = j
      · subst q
        rw [if_pos rfl, if_pos (by omega)]
        simp
      · rw [if_neg q, if_neg (by omega)]
/-- the lots of a book of so many pots -/
def lots (m : Nat) (B : List Int) : List (List Nat) := (List.range m).map (plc 0 B)
theorem pots_D {B : List Int} {m : Nat} (hd : SeqR d (B.map .int)) (hm : m ≤ 4000) (hl : B.length ≤ 4000) (h : ∀ k ∈ B, 0 ≤ k ∧ k < m) : potsD m d = some (.list ((lots m B).map tupN)) := by
  unfold potsD
  rw [hd.itemsLT]
  have e : (Nat.ble m line && Nat.ble (B.map PyData.int).length line) = true := by
    rw [List.length_map, Nat.ble_eq_true_of_le (Nat.le_trans hm (by decide)), Nat.ble_eq_true_of_le (Nat.le_trans hl (by decide))]
    rfl
  show (if (Nat.ble m line && Nat.ble (B.map PyData.int).length line) = true then _ else none) = _
  rw [if_pos e, pots_L B 0 _ (fun k hk => by rw [List.length_replicate]; exact h k hk)]
  show some _ = some _
  congr 3
  unfold lots
  apply List.ext_getElem
  · simp
  · intro j hj1 hj2
    simp
def potsF (iset : Nat) : Fn := { ps := 1, bx := false, fr := false, slots := 5, body := .pots 1 2 3 4 (.call iset (.cons (.var 0) (.nil))) 0 }
theorem pots_ok {iset : Nat} {B : List Int} (hset : ∀ as b, φ iset as b = run φ' setOfF as b) (hd : SeqR d (B.map .int)) (hl : B.length ≤ 4000) (hm : (nums B).length ≤ 4000) (h : ∀ k ∈ B, 0 ≤ k ∧ k < (nums B).length) :
    run φ (potsF iset) [d] b = .ok (.list ((lots (nums B).length B).map tupN)) b := by
  refine run_rt rfl ?_
  have e1 := set_i (φ := φ') (b := b0) hd hl
  have e2 := pots_D hd hm hl h
  simp [potsF, ex, ev, startE, getV, hset, e1, e2, List.replicate]

/-! ### the people of places -/
def folk (D : List (Str × Str)) (ks : List Nat) : List Str := ppl (ks.flatMap fun k => [dfr D k, dto D k])
def peopleF (iset : Nat) : Fn := { ps := 2, bx := false, fr := false, slots := 4, body := .seq (.ret (.call iset (.cons (.lc2 [2, 3] [3] (.var 3) (.nm 2) (.var 1) (.cst (.bool true)) (.nm 3) (.idx (.var 0) (.var 2)) (.cst (.bool true))) (.nil)))) (.nop) }
theorem flat2_len (f g : Nat → Str) : ∀ ks : List Nat, (ks.flatMap fun k => [f k, g k]).length = 2 * ks.length
  | [] => rfl
  | k :: ks => by
    rw [List.flatMap_cons, List.length_append, flat2_len f g ks, List.length_cons]
    simp
    omega
theorem people_ok {iset : Nat} {D : List (Str × Str)} {ks : List Nat} {pd : P} (hset : ∀ as b, φ iset as b = run φ' setOfF as b) (hd : DebtsR d D) (hp : itemsD pd = some (ks.map nI)) (hk : ∀ k ∈ ks, k < D.length) (hl : ks.length ≤ 1000) :
    run φ (peopleF iset) [d, pd] b = .ok (.tuple ((folk D ks).map .str)) b := by
  refine run_rt rfl ?_
  have hl2 : (ks.flatMap fun k => [dfr D k, dto D k]).length ≤ 2000 := by rw [flat2_len]; omega
  have e : ev φ (.lc2 [2, 3] [3] (.var 3) (.nm 2) (.var 1) (.cst (.bool true)) (.nm 3) (.idx (.var 0) (.var 2)) (.cst (.bool true))) [.v d, .v pd, .no, .no] b = .ok (.list (ks.flatMap fun k => [dfr D k, dto D k].map .str)) b := by
    refine ev_lc2 (d := pd) (f := nI) (ys := fun k => [dfr D k, dto D k]) (f2 := .str) (g := fun _ s => .str s) rfl hp ?_ fun k hkk => ?_
    · refine Nat.le_trans (Nat.le_of_eq ?_) (Nat.le_trans hl2 (by decide))
      rw [List.length_flatMap, List.length_flatMap]
      simp
    · obtain ⟨x, h1, h2⟩ := hd.at (hk k hkk)
      refine ⟨_, rfl, rfl, x, ?_, h2.items, fun s hs => ⟨_, rfl, rfl, rfl⟩⟩
      simp [wipe, ev, getV, nI, h1]
  have e2 : (ks.flatMap fun k => [dfr D k, dto D k].map PyData.str) = (ks.flatMap fun k => [dfr D k, dto D k]).map PyData.str := by
    rw [List.map_flatMap]
  rw [e2] at e
  have e3 := set_s (φ := φ') (b := b0) (d := .list ((ks.flatMap fun k => [dfr D k, dto D k]).map PyData.str)) (.inl rfl) (Nat.le_trans hl2 (by decide))
  show ex φ (.seq (.ret (.call iset (.cons _ .nil))) .nop) [.v d, .v pd, .no, .no] b = _
  refine seq_rt (ret_of ?_)
  show R.bind (R.bind (ev φ (.lc2 _ _ _ _ _ _ _ _ _) [.v d, .v pd, .no, .no] b) _) _ = _
  rw [e]
  simp [ev, hset, e3, folk]
end
end Dv
/-! text CN -/
set_option Elab.async false
set_option linter.all false
set_option maxRecDepth 100000
set_option maxHeartbeats 4000000
namespace Dv
open PySem

/-! ### dicts by names -/
def dictOf (l : List Str) (f : Str → Int) : List (P × P) := l.map fun p => (.str p, .int (f p))
theorem dTq_of (l : List Str) (f : Str → Int) : dTq (dictOf l f) = false := by cases l <;> rfl
theorem dLk_of (l : List Str) (f : Str → Int) : dLk (dictOf l f) = false := by cases l <;> rfl
theorem dcut_of (l : List Str) (f : Str → Int) : dcut (dictOf l f) = dictOf l f := by cases l <;> rfl
theorem dfind_of {f : Str → Int} {p : Str} : ∀ {l : List Str}, p ∈ l → dfind (dictOf l f) (.str p) = some (.int (f p))
  | [], h => by cases h
  | q :: l, h => by
    show (if decide (q = p) then some (PyData.int (f q)) else dfind (dictOf l f) (.str p)) = _
    by_cases e : q = p
    · subst e
      simp
    · rw [decide_eq_false e, if_neg (by decide)]
      exact dfind_of (by
        rcases List.mem_cons.mp h with h | h
        · exact absurd h.symm e
        · exact h)
theorem dfind_no {f : Str → Int} {p : Str} : ∀ {l : List Str}, p ∉ l → dfind (dictOf l f) (.str p) = none
  | [], h => rfl
  | q :: l, h => by
    show (if decide (q = p) then some (PyData.int (f q)) else dfind (dictOf l f) (.str p)) = _
    rw [List.mem_cons, not_or] at h
    rw [decide_eq_false (fun e => h.1 e.symm), if_neg (by decide)]
    exact dfind_no h.2
theorem any_of {l : List Str} {f : Str → Int} {p : Str} : ((dictOf l f).any fun e => keyEq e.1 (.str p)) = decide (p ∈ l) := by
  unfold dictOf
  rw [List.any_map, Bool.eq_iff_iff, List.any_eq_true, decide_eq_true_eq]
  constructor
  · rintro ⟨q, hq, e⟩
    have e : decide (q = p) = true := e
    rw [of_decide_eq_true e] at hq
    exact hq
  · intro h
    exact ⟨p, h, by show decide (p = p) = true; simp⟩
def updS (f : Str → Int) (p : Str) (v : Int) : Str → Int := fun q => if q = p then v else f q
theorem dput_in {l : List Str} {f : Str → Int} {p : Str} {v : Int} (h : p ∈ l) : dput (dictOf l f) (.str p) (.int v) = dictOf l (updS f p v) := by
  unfold dput
  rw [any_of, decide_eq_true h, if_pos rfl]
  unfold dictOf
  rw [List.map_map]
  apply List.map_congr_left
  intro q hq
  show (if decide (q = p) then (PyData.str q, PyData.int v) else (.str q, .int (f q))) = (.str q, .int (updS f p v q))
  unfold updS
  by_cases e : q = p
  · simp [e]
  · simp [e]
theorem dput_new {l : List Str} {f : Str → Int} {p : Str} (h : p ∉ l) : dput (dictOf l f) (.str p) (.int (f p)) = dictOf (l ++ [p]) f := by
  unfold dput
  rw [any_of, decide_eq_false h, if_neg (by decide)]
  unfold dictOf
  rw [List.map_append]
  rfl
theorem dputD_of {l : List Str} {f : Str → Int} {p : Str} {v : P} (hl : l.length ≤ 100000) : dputD (.dict (dictOf l f)) (.str p) v = some (.dict (dput (dictOf l f) (.str p) v)) := by
  have e : (keyOk (dTq (dictOf l f)) (.str p) && !dLk (dictOf l f) && Nat.ble ((dictOf l f).length + 1) line) = true := by
    rw [dTq_of, dLk_of, Nat.ble_eq_true_of_le (by unfold dictOf; rw [List.length_map]; exact Nat.le_trans (Nat.succ_le_succ hl) (by decide))]
    rfl
  show (if (keyOk (dTq (dictOf l f)) (.str p) && !dLk (dictOf l f) && Nat.ble ((dictOf l f).length + 1) line) = true then some (PyData.dict (dput (dictOf l f) (.str p) v)) else none) = _
  rw [if_pos e]
theorem idx_of {l : List Str} {f : Str → Int} {p : Str} (h : p ∈ l) : idxD (.dict (dictOf l f)) (.str p) = some (.int (f p)) := by
  show (match dgetD (.dict (dictOf l f)) (.str p) with | some (some v) => some v | _ => none) = _
  have : dgetD (.dict (dictOf l f)) (.str p) = some (some (.int (f p))) := by
    show (if keyOk (dTq (dictOf l f)) (.str p) = true then some (dfind (dictOf l f) (.str p)) else none) = _
    rw [dTq_of]
    show some (dfind (dictOf l f) (.str p)) = _
    rw [dfind_of h]
  rw [this]
theorem setAt_of {l : List Str} {f : Str → Int} {p : Str} {v : Int} (h : p ∈ l) (hl : l.length ≤ 100000) : setAt (.dict (dictOf l f)) (.str p) (.int v) = some (.dict (dictOf l (updS f p v))) := by
  show dputD (.dict (dictOf l f)) (.str p) (.int v) = _
  rw [dputD_of hl, dput_in h]
theorem dcL_of {turn : P → List (P × P) → Bx → R P} {f : Str → Int} {b : Bx} : ∀ (l acc : List Str), (acc ++ l).Nodup → (acc ++ l).length ≤ 100000 → (∀ p ∈ l, ∀ ds, turn (.str p) ds b = R.ofO (dputD (.dict ds) (.str p) (.int (f p))) b) → dcL turn (l.map .str) (dictOf acc f) b = .ok (.dict (dictOf (acc ++ l) f)) b
  | [], acc, _, _, _ => by rw [List.append_nil]; rfl
  | p :: l, acc, h, hl, ht => by
    have h1 : p ∉ acc := fun q => (List.nodup_append.mp h).2.2 p q p List.mem_cons_self rfl
    have e : turn (.str p) (dictOf acc f) b = .ok (.dict (dictOf (acc ++ [p]) f)) b := by
      rw [ht p List.mem_cons_self, dputD_of (by rw [List.length_append] at hl; omega), dput_new h1]
      rfl
    show (match turn (.str p) (dictOf acc f) b with | .ok (.dict ds') b1 => dcL turn (l.map .str) ds' b1 | _ => .no) = _
    rw [e]
    show dcL turn (l.map .str) (dictOf (acc ++ [p]) f) b = _
    rw [dcL_of l (acc ++ [p]) (by simpa using h) (by simpa using hl) (fun q hq => ht q (List.mem_cons_of_mem _ hq))]
    simp
/-- a dict locked -/
def lockOf (l : List Str) (f : Str → Int) : P := .dict (lMark :: dictOf l f)
theorem lock_eq (l : List Str) (f : Str → Int) : dlockD (.dict (dictOf l f)) = lockOf l f := by
  show (if dLk (dictOf l f) = true then PyData.dict (dictOf l f) else .dict (lMark :: dictOf l f)) = _
  rw [dLk_of, if_neg (by decide)]
  rfl
theorem vals_lock (fr : Bool) (l : List Str) (f : Str → Int) : dvalsD fr (lockOf l f) = some ((l.map f).map .int) := by
  show (if ((fr || true) && !dTq (dictOf l f)) = true then some ((dcut (dictOf l f)).map (·.2)) else none) = _
  rw [dTq_of, dcut_of, Bool.or_true]
  show some ((dictOf l f).map (·.2)) = _
  unfold dictOf
  rw [List.map_map, List.map_map]
  rfl
theorem vals_new (l : List Str) (f : Str → Int) : dvalsD true (.dict (dictOf l f)) = some ((l.map f).map .int) := by
  show (if ((true || dLk (dictOf l f)) && !dTq (dictOf l f)) = true then some ((dcut (dictOf l f)).map (·.2)) else none) = _
  rw [dTq_of, dcut_of, Bool.true_or]
  show some ((dictOf l f).map (·.2)) = _
  unfold dictOf
  rw [List.map_map, List.map_map]
  rfl
theorem items_lock (fr : Bool) (l : List Str) (f : Str → Int) : ditemsD fr (lockOf l f) = some (l.map fun p => .tuple [.str p, .int (f p)]) := by
  show (if ((fr || true) && !dTq (dictOf l f)) = true then some ((dcut (dictOf l f)).map fun e => PyData.tuple [e.1, e.2]) else none) = _
  rw [dTq_of, dcut_of, Bool.or_true]
  show some ((dictOf l f).map fun e => PyData.tuple [e.1, e.2]) = _
  unfold dictOf
  rw [List.map_map]
  rfl
theorem idx_lock {l : List Str} {f : Str → Int} {p : Str} (h : p ∈ l) : idxD (lockOf l f) (.str p) = some (.int (f p)) := by
  show (match dgetD (lockOf l f) (.str p) with | some (some v) => some v | _ => none) = _
  have : dgetD (lockOf l f) (.str p) = some (some (.int (f p))) := by
    show (if keyOk (dTq (dictOf l f)) (.str p) = true then some (dfind (dictOf l f) (.str p)) else none) = _
    rw [dTq_of]
    show some (dfind (dictOf l f) (.str p)) = _
    rw [dfind_of h]
  rw [this]

/-! ### nets -/
def dlt (D : List (Str × Str)) (A : List Int) (p : Str) (k : Nat) : Int := (if dto D k = p then amt A k else 0) - (if dfr D k = p then amt A k else 0)
def netN (D : List (Str × Str)) (A : List Int) (ks : List Nat) (p : Str) : Int := (ks.map (dlt D A p)).sum
theorem netN_app (D : List (Str × Str)) (A : List Int) (ks : List Nat) (k : Nat) (p : Str) : netN D A (ks ++ [k]) p = netN D A ks p + dlt D A p k := by
  unfold netN
  rw [List.map_append, List.sum_append]
  simp
theorem folk_from {D : List (Str × Str)} {ks : List Nat} {k : Nat} (h : k ∈ ks) : dfr D k ∈ folk D ks := ppl_mem.mpr (List.mem_flatMap.mpr ⟨k, h, List.mem_cons_self⟩)
theorem folk_to {D : List (Str × Str)} {ks : List Nat} {k : Nat} (h : k ∈ ks) : dto D k ∈ folk D ks := ppl_mem.mpr (List.mem_flatMap.mpr ⟨k, h, List.mem_cons_of_mem _ List.mem_cons_self⟩)
theorem ppl_len (ns : List Str) : (ppl ns).length ≤ ns.length := by
  have : (dedG [] ns).length ≤ ns.length := by
    have h : ∀ (xs acc : List Str), (dedG acc xs).length ≤ acc.length + xs.length := by
      intro xs
      induction xs with
      | nil => intro acc; simp [dedG]
      | cons x xs ih =>
        intro acc
        rw [dedG]
        refine Nat.le_trans (ih _) ?_
        by_cases q : (acc.any fun y => decide (y = x)) = true
        · rw [if_pos q, List.length_cons]; omega
        · rw [if_neg q, List.length_cons, List.length_append, List.length_singleton]; omega
    simpa using h ns []
  unfold ppl
  rw [(sortG_perm _ _).length_eq]
  exact this
theorem folk_len (D : List (Str × Str)) (ks : List Nat) : (folk D ks).length ≤ 2 * ks.length := by
  refine Nat.le_trans (ppl_len _) (Nat.le_of_eq (flat2_len _ _ ks))
theorem sum_hit {l : List Str} {q : Str} {v : Int} (hn : l.Nodup) (h : q ∈ l) : (l.map fun p => if q = p then v else 0).sum = v := by
  induction l with
  | nil => cases h
  | cons p l ih =>
    rw [List.map_cons, List.sum_cons]
    have hn := List.nodup_cons.mp hn
    by_cases e : q = p
    · subst e
      have : (l.map fun p => if q = p then v else 0) = l.map fun _ => (0 : Int) := List.map_congr_left fun p hp => if_neg fun e => hn.1 (by rw [e]; exact hp)
      rw [this, if_pos rfl]
      have z : ∀ l : List Str, (l.map fun _ => (0 : Int)).sum = 0 := by
        intro l
        induction l with
        | nil => rfl
        | cons a l ih => rw [List.map_cons, List.sum_cons, ih]; rfl
      rw [z]
      omega
    · rw [if_neg e, ih hn.2 ((List.mem_cons.mp h).resolve_left e)]
      omega
theorem sum_add {α : Type} (f g : α → Int) (l : List α) : (l.map fun p => f p + g p).sum = (l.map f).sum + (l.map g).sum := by
  induction l with
  | nil => rfl
  | cons a l ih => simp only [List.map_cons, List.sum_cons, ih]; omega
theorem sum_sub {α : Type} (f g : α → Int) (l : List α) : (l.map fun p => f p - g p).sum = (l.map f).sum - (l.map g).sum := by
  induction l with
  | nil => rfl
  | cons a l ih => simp only [List.map_cons, List.sum_cons, ih]; omega
theorem sum_zero {α : Type} (l : List α) : (l.map fun _ => (0 : Int)).sum = 0 := by
  induction l with
  | nil => rfl
  | cons a l ih => rw [List.map_cons, List.sum_cons, ih]; rfl
/-- all nets together are nothing -/
theorem nets_zero {D : List (Str × Str)} {A : List Int} {l : List Str} (hn : l.Nodup) : ∀ ks : List Nat, (∀ k ∈ ks, dfr D k ∈ l ∧ dto D k ∈ l) → (l.map (netN D A ks)).sum = 0
  | [], _ => sum_zero l
  | k :: ks, h => by
    have e : netN D A (k :: ks) = fun p => dlt D A p k + netN D A ks p := by
      funext p
      unfold netN
      rw [List.map_cons, List.sum_cons]
    obtain ⟨h1, h2⟩ := h k List.mem_cons_self
    rw [e, sum_add, nets_zero hn ks fun k' hk' => h k' (List.mem_cons_of_mem _ hk')]
    unfold dlt
    rw [sum_sub, sum_hit hn h1, sum_hit hn h2]
    omega
theorem folk_zero (D : List (Str × Str)) (A : List Int) (ks : List Nat) : ((folk D ks).map (netN D A ks)).sum = 0 := nets_zero (ppl_nodup _) ks fun k hk => ⟨folk_from hk, folk_to hk⟩
/-- what those pay who have to -/
def paidS (ns : List Int) : Int := ((ns.filter fun n => decide (n < 0)).map fun n => -n).sum
theorem pos_neg (ns : List Int) : (ns.filter fun n => decide (n > 0)).sum = ns.sum + paidS ns := by
  unfold paidS
  induction ns with
  | nil => rfl
  | cons n ns ih =>
    rw [List.filter_cons, List.filter_cons, List.sum_cons]
    by_cases h1 : n > 0
    · rw [decide_eq_true h1, decide_eq_false (by omega : ¬ n < 0), if_pos rfl, if_neg (by decide), List.sum_cons, ih]
      omega
    · by_cases h2 : n < 0
      · rw [decide_eq_false h1, decide_eq_true h2, if_pos rfl, if_neg (by decide), List.map_cons, List.sum_cons, ih]
        omega
      · rw [decide_eq_false h1, decide_eq_false h2, if_neg (by decide), if_neg (by decide), ih]
        omega
theorem neg_sum (ns : List Int) : (ns.filter fun n => decide (n < 0)).sum = -paidS ns := by
  unfold paidS
  induction ns with
  | nil => rfl
  | cons n ns ih =>
    rw [List.filter_cons]
    by_cases h2 : n < 0
    · rw [decide_eq_true h2, if_pos rfl, List.map_cons, List.sum_cons, List.sum_cons, ih]
      omega
    · rw [decide_eq_false h2, if_neg (by decide), ih]

section
variable {φ φ' : Phi} {b : Bx} {d a pd : P} {D : List (Str × Str)} {A : List Int} {ks : List Nat}
def netsF (ipeople : Nat) : Fn := { ps := 3, bx := false, fr := false, slots := 6, body := .seq (.set 3 true (.dcomp [5] (.var 5) (.cst (.int 0)) (.nm 5) (.call ipeople (.cons (.var 0) (.cons (.var 2) (.nil)))) (.cst (.bool true)))) (.seq (.forr (.nm 4) (.var 2) (.seq (.augx 3 (.idx (.idx (.var 0) (.var 4)) (.cst (.int 0))) .sub (.idx (.var 1) (.var 4))) (.seq (.augx 3 (.idx (.idx (.var 0) (.var 4)) (.cst (.int 1))) .add (.idx (.var 1) (.var 4))) (.nop)))) (.seq (.frz 3) (.seq (.ret (.var 3)) (.nop)))) }
theorem nets_ok {ipeople iset : Nat} {ψ : Phi} (hpp : ∀ as b, φ ipeople as b = run φ' (peopleF iset) as b) (hset : ∀ as b, φ' iset as b = run ψ setOfF as b) (hd : DebtsR d D) (ha : SeqR a (A.map .int)) (hp : itemsD pd = some (ks.map nI))
    (hk : ∀ k ∈ ks, k < D.length) (hk2 : ∀ k ∈ ks, k < A.length) (hl : ks.length ≤ 1000) : run φ (netsF ipeople) [d, a, pd] b = .ok (lockOf (folk D ks) (netN D A ks)) b := by
  refine We.eq (we_run rfl ?_)
  have hfl : (folk D ks).length ≤ 100000 := Nat.le_trans (folk_len D ks) (by omega)
  have hdc : ev φ (.dcomp [5] (.var 5) (.cst (.int 0)) (.nm 5) (.call ipeople (.cons (.var 0) (.cons (.var 2) (.nil)))) (.cst (.bool true))) [.v d, .v a, .v pd, .no, .no, .no] b = .ok (.dict (dictOf (folk D ks) fun _ => 0)) b := by
    have h1 := people_ok (φ := φ') (b := b0) hset hd hp hk hl
    have h2 : ev φ (.call ipeople (.cons (.var 0) (.cons (.var 2) (.nil)))) [.v d, .v a, .v pd, .no, .no, .no] b = .ok (.tuple ((folk D ks).map .str)) b := by
      simp [ev, getV, hpp, h1]
    show R.bind (ev φ (.call ipeople _) _ b) _ = _
    rw [h2]
    show dcL _ ((folk D ks).map .str) (dictOf [] fun _ => 0) b = _
    rw [dcL_of (f := fun _ => 0) (folk D ks) [] (by rw [List.nil_append]; exact ppl_nodup _) (by rw [List.nil_append]; exact hfl) (fun p _ ds => ?_)]
    · rfl
    · simp [asgn, wipe, ev, getV]
  refine wp_seq (wp_set (.of_eq hdc ?_))
  refine wp_seq (wp_for (T := _) (fun rest e b' => b' = b ∧ ∃ don todo e4 e5, ks = don ++ todo ∧ rest = todo.map nI ∧ e = [.v d, .v a, .v pd, .o (.dict (dictOf (folk D ks) (netN D A don))), e4, e5]) ?_ ?_ ?_)
  · exact .of_eq rfl ⟨_, hp, rfl, [], ks, _, _, rfl, rfl, rfl⟩
  · rintro x xs e b' ⟨rfl, don, todo, e4, e5, h1, h2, rfl⟩
    cases todo with
    | nil => cases h2
    | cons k todo =>
      rw [List.map_cons] at h2
      cases h2
      have hkk : k ∈ ks := by rw [h1]; simp
      obtain ⟨x, q1, q2⟩ := hd.at (hk k hkk)
      have q3 := amt_idx ha (hk2 k hkk)
      have i1 := q2.i0 (y := .str (dto D k))
      have i2 := q2.i1
      have m1 := folk_from (D := D) hkk
      have m2 := folk_to (D := D) hkk
      refine ⟨_, rfl, wp_seq ?_⟩
      have g1 : ex φ (.augx 3 (.idx (.idx (.var 0) (.var 4)) (.cst (.int 0))) .sub (.idx (.var 1) (.var 4))) [.v d, .v a, .v pd, .o (.dict (dictOf (folk D ks) (netN D A don))), .v (nI k), e5] b' = .nx [.v d, .v a, .v pd, .o (.dict (dictOf (folk D ks) (updS (netN D A don) (dfr D k) (netN D A don (dfr D k) - amt A k)))), .v (nI k), e5] b' := by
        simp [ex, ev, getO, getV, nI, q1, i1, q3, idx_of m1, augF, setAt_of m1 hfl]
      show Wp (ex φ _ [.v d, .v a, .v pd, .o (.dict (dictOf (folk D ks) (netN D A don))), .v (nI k), e5] b') _ _
      rw [g1, Wp_nx]
      refine wp_seq ?_
      have g2 : ex φ (.augx 3 (.idx (.idx (.var 0) (.var 4)) (.cst (.int 1))) .add (.idx (.var 1) (.var 4))) [.v d, .v a, .v pd, .o (.dict (dictOf (folk D ks) (updS (netN D A don) (dfr D k) (netN D A don (dfr D k) - amt A k)))), .v (nI k), e5] b' = .nx [.v d, .v a, .v pd, .o (.dict (dictOf (folk D ks) (netN D A (don ++ [k])))), .v (nI k), e5] b' := by
        have : updS (updS (netN D A don) (dfr D k) (netN D A don (dfr D k) - amt A k)) (dto D k) (updS (netN D A don) (dfr D k) (netN D A don (dfr D k) - amt A k) (dto D k) + amt A k) = netN D A (don ++ [k]) := by
          funext p
          rw [netN_app]
          unfold updS dlt
          by_cases c1 : p = dto D k
          · subst c1
            by_cases c2 : dfr D k = dto D k
            · simp [c2]
            · have c3 : ¬ dto D k = dfr D k := fun e => c2 e.symm
              simp [c2, c3]
          · have c3 : ¬ dto D k = p := fun e => c1 e.symm
            by_cases c2 : p = dfr D k
            · subst c2
              simp [c1, c3]
              omega
            · have c4 : ¬ dfr D k = p := fun e => c2 e.symm
              simp [c1, c2, c3, c4]
        simp [ex, ev, getO, getV, nI, q1, i2, q3, idx_of m2, augF, setAt_of m2 hfl, this]
      rw [g2, Wp_nx]
      exact wp_nop ⟨rfl, don ++ [k], todo, _, _, by rw [h1]; simp, rfl, rfl⟩
  · rintro e b' ⟨rfl, don, todo, e4, e5, h1, h2, rfl⟩
    cases todo with
    | cons k todo => cases h2
    | nil =>
      rw [List.append_nil] at h1
      subst h1
      refine wp_seq ?_
      have : ex φ (.frz 3) [.v d, .v a, .v pd, .o (.dict (dictOf (folk D ks) (netN D A ks))), e4, e5] b' = .nx [.v d, .v a, .v pd, .v (lockOf (folk D ks) (netN D A ks)), e4, e5] b' := by
        simp [ex, freeze, getO, lock_eq]
      rw [this, Wp_nx]
      exact wp_seq (wp_ret (.of_eq rfl ⟨rfl, rfl⟩))
/-! ### paid_in, moved_by_pots, moved, saved -/
def paidF : Fn := { ps := 1, bx := false, fr := false, slots := 2, body := .seq (.ret (.bi .sum (.cons (.lc [1] (.neg (.var 1)) (.nm 1) (.dvals false (.var 0)) (.cmp .lt (.var 1) (.cst (.int 0)))) (.nil)))) (.nop) }
theorem paid_ok {l : List Str} {f : Str → Int} (hl : l.length ≤ 100000) : run φ paidF [lockOf l f] b = .ok (.int (paidS (l.map f))) b := by
  refine run_rt rfl ?_
  have e : ev φ (.lc [1] (.neg (.var 1)) (.nm 1) (.dvals false (.var 0)) (.cmp .lt (.var 1) (.cst (.int 0)))) [.v (lockOf l f), .no] b = .ok (.list (((l.map f).filter fun n => decide (n < 0)).map fun n => .int (-n))) b := by
    refine lc_filter_map (d := .list ((l.map f).map .int)) (f := .int) (p := fun n => decide (n < 0)) (g := fun n => .int (-n)) ?_ rfl ?_ fun n _ => ⟨_, rfl, rfl, fun _ => rfl⟩
    · simp [ev, getV, vals_lock]
    · rw [List.length_map]; exact Nat.le_trans hl (by decide)
  have e2 : (((l.map f).filter fun n => decide (n < 0)).map fun n => PyData.int (-n)) = (((l.map f).filter fun n => decide (n < 0)).map fun n => -n).map .int := by rw [List.map_map]; rfl
  rw [e2] at e
  show ex φ (.seq (.ret (.bi .sum (.cons _ .nil))) .nop) [.v (lockOf l f), .no] b = _
  refine seq_rt (ret_of ?_)
  show R.bind (R.bind (ev φ (.lc _ _ _ _ _) [.v (lockOf l f), .no] b) _) _ = _
  rw [e]
  simp only [bind_ok, ev, argsOf_list, sum_l]
  rfl
def paidN (D : List (Str × Str)) (A : List Int) (ks : List Nat) : Int := paidS ((folk D ks).map (netN D A ks))
def mbp (D : List (Str × Str)) (A B : List Int) : List Int := (lots (nums B).length B).map (paidN D A)
theorem plc_mem {k : Nat} {j : Nat} : ∀ {B : List Int} {i : Nat}, k ∈ plc i B j → i ≤ k ∧ k < i + B.length
  | [], i, h => by cases h
  | c :: B, i, h => by
    rw [plc] at h
    by_cases q : c = (j : Int)
    · rw [if_pos q] at h
      rcases List.mem_cons.mp h with rfl | h
      · exact ⟨Nat.le_refl _, by simp⟩
      · have := plc_mem h
        rw [List.length_cons]; omega
    · rw [if_neg q] at h
      have := plc_mem h
      rw [List.length_cons]; omega
theorem plc_len (j : Nat) : ∀ (B : List Int) (i : Nat), (plc i B j).length ≤ B.length
  | [], i => Nat.le_refl _
  | c :: B, i => by
    rw [plc]
    have := plc_len j B (i + 1)
    by_cases q : c = (j : Int)
    · rw [if_pos q, List.length_cons, List.length_cons]; omega
    · rw [if_neg q, List.length_cons]; omega
theorem lots_mem {m : Nat} {B : List Int} {l : List Nat} (h : l ∈ lots m B) : l.length ≤ B.length ∧ ∀ k ∈ l, k < B.length := by
  obtain ⟨j, _, rfl⟩ := List.mem_map.mp h
  exact ⟨plc_len j B 0, fun k hk => by have := plc_mem hk; omega⟩
def movedByF (ipots inets ipaid : Nat) : Fn := { ps := 3, bx := false, fr := false, slots := 4, body := .seq (.ret (.bi .tuple_ (.cons (.lc [3] (.call ipaid (.cons (.call inets (.cons (.var 0) (.cons (.var 2) (.cons (.var 3) (.nil))))) (.nil))) (.nm 3) (.call ipots (.cons (.var 1) (.nil))) (.cst (.bool true))) (.nil)))) (.nop) }
/-- the pots' book, all its numbers below its count -/
structure BookR (bd : P) (B : List Int) : Prop where
  seq : SeqR bd (B.map .int)
  len : B.length ≤ 1000
  full : ∀ k ∈ B, 0 ≤ k ∧ k < (nums B).length
theorem nums_len (ns : List Int) : (nums ns).length ≤ ns.length := by
  have h : ∀ (xs acc : List Int), (dedG acc xs).length ≤ acc.length + xs.length := by
    intro xs
    induction xs with
    | nil => intro acc; simp [dedG]
    | cons x xs ih =>
      intro acc
      rw [dedG]
      refine Nat.le_trans (ih _) ?_
      by_cases q : (acc.any fun y => decide (y = x)) = true
      · rw [if_pos q, List.length_cons]; omega
      · rw [if_neg q, List.length_cons, List.length_append, List.length_singleton]; omega
  unfold nums
  rw [(sortG_perm _ _).length_eq]
  simpa using h ns []
theorem lots_len (m : Nat) (B : List Int) : (lots m B).length = m := by simp [lots]
theorem moved_by_ok {ipots inets ipaid ipeople iset1 iset2 : Nat} {ψ ψ2 φ2 φ3 φ4 : Phi} {bd : P} {B : List Int} (hpots : ∀ as b, φ ipots as b = run φ2 (potsF iset1) as b) (hset1 : ∀ as b, φ2 iset1 as b = run ψ2 setOfF as b) (hpaid : ∀ as b, φ ipaid as b = run φ3 paidF as b)
    (hnets : ∀ as b, φ inets as b = run φ4 (netsF ipeople) as b) (hpp : ∀ as b, φ4 ipeople as b = run φ' (peopleF iset2) as b) (hset2 : ∀ as b, φ' iset2 as b = run ψ setOfF as b)
    (hd : DebtsR d D) (ha : SeqR a (A.map .int)) (hb : BookR bd B) (h1 : D.length = B.length) (h2 : A.length = B.length) : run φ (movedByF ipots inets ipaid) [d, bd, a] b = .ok (.tuple ((mbp D A B).map .int)) b := by
  refine run_rt rfl ?_
  have hm : (nums B).length ≤ 1000 := Nat.le_trans (nums_len B) hb.len
  have e0 := pots_ok (φ := φ2) (b := b0) hset1 hb.seq (Nat.le_trans hb.len (by decide)) (Nat.le_trans hm (by decide)) hb.full
  have e : ev φ (.lc [3] (.call ipaid (.cons (.call inets (.cons (.var 0) (.cons (.var 2) (.cons (.var 3) (.nil))))) (.nil))) (.nm 3) (.call ipots (.cons (.var 1) (.nil))) (.cst (.bool true))) [.v d, .v bd, .v a, .no] b = .ok (.list ((lots (nums B).length B).map fun l => .int (paidN D A l))) b := by
    refine lc_map_map (d := .list ((lots (nums B).length B).map tupN)) (f := tupN) (g := fun l => .int (paidN D A l)) ?_ rfl ?_ fun l hl => ?_
    · simp [ev, getV, hpots, e0]
    · rw [lots_len]; exact Nat.le_trans hm (by decide)
    · obtain ⟨l1, l2⟩ := lots_mem hl
      have e1 := nets_ok (φ := φ4) (b := b0) (pd := tupN l) (ks := l) hpp hset2 hd ha rfl (fun k hk => by rw [h1]; exact l2 k hk) (fun k hk => by rw [h2]; exact l2 k hk) (Nat.le_trans l1 hb.len)
      have e2 := paid_ok (φ := φ3) (b := b0) (l := folk D l) (f := netN D A l) (Nat.le_trans (folk_len D l) (by have := hb.len; omega))
      refine ⟨_, rfl, rfl, ?_⟩
      simp [wipe, ev, getV, hnets, e1, hpaid, e2, paidN]
  have e2 : ((lots (nums B).length B).map fun l => PyData.int (paidN D A l)) = (mbp D A B).map .int := by unfold mbp; rw [List.map_map]; rfl
  rw [e2] at e
  show ex φ (.seq (.ret (.bi .tuple_ (.cons _ .nil))) .nop) [.v d, .v bd, .v a, .no] b = _
  refine seq_rt (ret_of ?_)
  show R.bind (R.bind (ev φ (.lc _ _ _ _ _) [.v d, .v bd, .v a, .no] b) _) _ = _
  rw [e]
  simp only [bind_ok, ev, argsOf_list, tuple_l]
  rfl
def movedF (iby : Nat) : Fn := { ps := 3, bx := false, fr := false, slots := 3, body := .seq (.ret (.bi .sum (.cons (.call iby (.cons (.var 0) (.cons (.var 1) (.cons (.var 2) (.nil))))) (.nil)))) (.nop) }
theorem moved_ok {iby : Nat} {bd : P} {ns : List Int} (h : ∀ b, φ iby [d, bd, a] b = .ok (.tuple (ns.map .int)) b) : run φ (movedF iby) [d, bd, a] b = .ok (.int ns.sum) b := by
  refine run_rt rfl ?_
  simp [movedF, ex, ev, startE, getV, h, sum_t]
def savedF (imoved : Nat) : Fn := { ps := 3, bx := false, fr := false, slots := 3, body := .seq (.ret (.bin .sub (.bi .sum (.cons (.var 2) (.nil))) (.call imoved (.cons (.var 0) (.cons (.var 1) (.cons (.var 2) (.nil))))))) (.nop) }
theorem saved_ok {imoved : Nat} {bd : P} {n : Int} (ha : SeqR a (A.map .int)) (h : ∀ b, φ imoved [d, bd, a] b = .ok (.int n) b) : run φ (savedF imoved) [d, bd, a] b = .ok (.int (A.sum - n)) b := by
  refine run_rt rfl ?_
  simp [savedF, ex, ev, startE, getV, h, ha.sum]
end
end Dv
/-! text CO -/
set_option Elab.async false
set_option linter.all false
set_option maxRecDepth 100000
set_option maxHeartbeats 4000000
namespace Dv
open PySem

theorem idx_last (xs : List P) (x : P) : idxD (.list (xs ++ [x])) (.int (-1)) = some x := by
  show L2.atI (xs ++ [x]) (-1) = some x
  have e : L2.ixN (xs ++ [x]).length (-1) = some xs.length := by
    unfold L2.ixN
    rw [if_neg (by decide), List.length_append, List.length_singleton, if_pos (by omega)]
    congr 1
    omega
  unfold L2.atI
  rw [e]
  show (xs ++ [x])[xs.length]? = some x
  simp
/-! ### the laws' own defs -/
theorem rng0 (n : Nat) : rngUp 0 n = (List.range n).map nI := by
  rw [rngUp_eq]
  apply List.map_congr_left
  intro i _
  simp [nI]
theorem plc_filter (j : Nat) : ∀ (B : List Int) (i : Nat), plc i B j = ((List.range B.length).filter fun k => decide (B.getD k 0 = (j : Int))).map (i + ·)
  | [], i => rfl
  | c :: B, i => by
    rw [plc, plc_filter j B (i + 1), List.length_cons, List.range_succ_eq_map, List.filter_cons]
    have e : (((List.range B.length).map Nat.succ).filter fun k => decide ((c :: B).getD k 0 = (j : Int))).map (i + ·) = ((List.range B.length).filter fun k => decide (B.getD k 0 = (j : Int))).map (i + 1 + ·) := by
      rw [List.filter_map, List.map_map]
      have h1 : ((fun k => decide ((c :: B).getD k 0 = (j : Int))) ∘ Nat.succ) = fun k => decide (B.getD k 0 = (j : Int)) := by
        funext k
        simp [Function.comp]
      rw [h1]
      apply List.map_congr_left
      intro k _
      simp
      omega
    by_cases q : c = (j : Int)
    · have q2 : decide ((c :: B).getD 0 0 = (j : Int)) = true := by simpa using q
      rw [if_pos q, if_pos q2, List.map_cons, e]
      simp
    · have q2 : ¬ decide ((c :: B).getD 0 0 = (j : Int)) = true := by simpa using q
      rw [if_neg q, if_neg q2, e]
theorem plc0 (B : List Int) (j : Nat) : ((List.range B.length).filter fun k => decide (B.getD k 0 = (j : Int))) = plc 0 B j := by
  rw [plc_filter]
  simp
section
variable {φ φ' : Phi} {b : Bx} {d a pd : P} {D : List (Str × Str)} {A B : List Int} {ks : List Nat}
def lotsF : Fn := { ps := 1, bx := false, fr := false, slots := 3, body := .seq (.ret (.lc [1] (.lc [2] (.var 2) (.nm 2) (.rng (.cons (.bi .len (.cons (.var 0) (.nil))) (.nil))) (.cmp .eq (.idx (.var 0) (.var 2)) (.var 1))) (.nm 1) (.rng (.cons (.bi .lenset (.cons (.var 0) (.nil))) (.nil))) (.cst (.bool true)))) (.nop) }
def listN (l : List Nat) : P := .list (l.map nI)
theorem lots_ok (hd : SeqR d (B.map .int)) (hl : B.length ≤ 1000) : run φ lotsF [d] b = .ok (.list ((lots (nums B).length B).map listN)) b := by
  refine run_rt rfl (seq_rt (ret_of ?_))
  have hm : (nums B).length ≤ 1000 := Nat.le_trans (nums_len B) hl
  have e1 : biD .lenset [d] = some (.int (nums B).length) := by rw [hd.lenset, lenset_i (Nat.le_trans hl (by decide))]
  have e2 := rng_n hm
  unfold lots
  rw [List.map_map]
  show ev φ _ [.v d, .no, .no] b = _
  refine lc_map_map (d := .list (rngUp 0 (nums B).length)) (f := nI) (g := listN ∘ plc 0 B) ?_ (by rw [rng0]; rfl) (by rw [List.length_range]; exact Nat.le_trans hm (by decide)) fun j hj => ⟨_, rfl, rfl, ?_⟩
  · simp [ev, getV, startE, e1, e2]
  · show ev φ _ [.v d, .v (nI j), .no] b = R.ok (PyData.list ((plc 0 B j).map nI)) b
    rw [← plc0]
    have e3 : lenD d = some (B.length : Int) := by rw [hd.len, List.length_map]
    refine lc_filter_map (d := .list (rngUp 0 B.length)) (f := nI) (p := fun k => decide (B.getD k 0 = (j : Int))) (g := nI) ?_ (by rw [rng0]; rfl) (by rw [List.length_range]; exact Nat.le_trans hl (by decide)) fun k hk => ⟨_, rfl, ?_, fun _ => rfl⟩
    · simp [ev, getV, startE, wipe, e3, rng_n hl]
    · have hk := List.mem_range.mp hk
      have e4 : idxD d (.int (k : Int)) = some (.int (B.getD k 0)) := amt_idx (A := B) hd hk
      simp [ev, getV, startE, wipe, nI, e4]
def folkF : Fn := { ps := 2, bx := false, fr := false, slots := 4, body := .seq (.set 2 false (.lst (.nil))) (.seq (.forr (.nm 3) (.var 1) (.seq (.set 2 false (.bin .add (.var 2) (.bi .list_ (.cons (.idx (.var 0) (.var 3)) (.nil))))) (.nop))) (.seq (.ret (.bi .sortset (.cons (.var 2) (.nil)))) (.nop))) }
theorem add_l {xs ys : List P} (h : xs.length + ys.length ≤ line) : binD .add (.list xs) (.list ys) = some (.list (xs ++ ys)) := by
  show (if xs.length + ys.length ≤ line then some (PyData.list (xs ++ ys)) else none) = _
  rw [if_pos h]
theorem folk_ok (hd : DebtsR d D) (hp : itemsD pd = some (ks.map nI)) (hk : ∀ k ∈ ks, k < D.length) (hl : ks.length ≤ 1000) : run φ folkF [d, pd] b = .ok (.list ((folk D ks).map .str)) b := by
  refine We.eq (we_run rfl ?_)
  refine wp_seq (wp_set (.of_eq (a := .list []) (b := b) rfl ?_))
  refine wp_seq (wp_for (fun rest e b' => b' = b ∧ ∃ don todo e3, ks = don ++ todo ∧ rest = todo.map nI ∧ e = [.v d, .v pd, .v (.list ((don.flatMap fun k => [dfr D k, dto D k]).map .str)), e3]) (.of_eq rfl ⟨_, hp, rfl, [], ks, _, rfl, rfl, rfl⟩) ?_ ?_)
  · rintro x xs e b' ⟨rfl, don, todo, e3, h1, h2, rfl⟩
    cases todo with
    | nil => cases h2
    | cons k todo =>
      rw [List.map_cons] at h2
      cases h2
      have hkk : k ∈ ks := by rw [h1]; simp
      obtain ⟨x, q1, q2⟩ := hd.at (hk k hkk)
      have q3 := q2.list
      have hlen : ((don.flatMap fun k => [dfr D k, dto D k]).map PyData.str).length + [PyData.str (dfr D k), .str (dto D k)].length ≤ line := by
        rw [List.length_map, flat2_len]
        have : don.length + (todo.length + 1) ≤ 1000 := by rw [h1] at hl; simpa using hl
        refine Nat.le_trans ?_ (by decide : 3000 ≤ line)
        show 2 * don.length + 2 ≤ 3000
        omega
      refine ⟨_, rfl, wp_seq (wp_set (.of_eq (a := .list (((don ++ [k]).flatMap fun k => [dfr D k, dto D k]).map .str)) (b := b') ?_ ?_))⟩
      · show ev φ _ [.v d, .v pd, .v (.list ((don.flatMap fun k => [dfr D k, dto D k]).map .str)), .v (nI k)] b' = _
        simp only [ev, getV, nI, bind_ok, ofO_some, List.getElem?_cons_zero, List.getElem?_cons_succ, q1, argsOf_list, q3, add_l hlen]
        rw [List.flatMap_append, List.map_append]
        rfl
      · exact wp_nop ⟨rfl, don ++ [k], todo, _, by rw [h1]; simp, rfl, rfl⟩
  · rintro e b' ⟨rfl, don, todo, e3, h1, h2, rfl⟩
    cases todo with
    | cons k todo => cases h2
    | nil =>
      rw [List.append_nil] at h1
      subst h1
      have e1 : biD .sortset [.list ((ks.flatMap fun k => [dfr D k, dto D k]).map .str)] = some (.list ((folk D ks).map .str)) := by
        show sortsetD _ = _
        rw [sortset_s (by rw [flat2_len]; omega)]
        rfl
      refine wp_seq (wp_ret (.of_eq (a := .list ((folk D ks).map .str)) (b := b') ?_ ⟨rfl, rfl⟩))
      simp only [ev, getV, bind_ok, ofO_some, List.getElem?_cons_zero, List.getElem?_cons_succ, argsOf_list, e1]
def netF : Fn := { ps := 4, bx := false, fr := false, slots := 6, body := .seq (.set 4 false (.bi .sum (.cons (.lc [5] (.idx (.var 1) (.var 5)) (.nm 5) (.var 2) (.cmp .eq (.idx (.idx (.var 0) (.var 5)) (.cst (.int 1))) (.var 3))) (.nil)))) (.seq (.ret (.bin .sub (.var 4) (.bi .sum (.cons (.lc [5] (.idx (.var 1) (.var 5)) (.nm 5) (.var 2) (.cmp .eq (.idx (.idx (.var 0) (.var 5)) (.cst (.int 0))) (.var 3))) (.nil))))) (.nop)) }
theorem sum_filter (c : Nat → Bool) (f : Nat → Int) : ∀ ks : List Nat, (ks.map fun k => if c k = true then f k else 0).sum = ((ks.filter c).map f).sum
  | [] => rfl
  | k :: ks => by
    rw [List.map_cons, List.sum_cons, sum_filter c f ks, List.filter_cons]
    by_cases q : c k = true
    · rw [if_pos q, if_pos q, List.map_cons, List.sum_cons]
    · rw [if_neg q, if_neg q]; omega
/-- good names -/
def okN (D : List (Str × Str)) : Prop := ∀ p ∈ D, PyData.strOk p.1 = true ∧ PyData.strOk p.2 = true
theorem okN.at {D : List (Str × Str)} (h : okN D) {k : Nat} (hk : k < D.length) : PyData.strOk (dfr D k) = true ∧ PyData.strOk (dto D k) = true := by
  obtain ⟨e1, e2⟩ := dfr_at (List.getElem?_eq_getElem hk)
  rw [e1, e2]
  exact h _ (List.getElem_mem hk)
theorem netN_eq (D : List (Str × Str)) (A : List Int) (ks : List Nat) (p : Str) : netN D A ks p = ((ks.filter fun k => decide (dto D k = p)).map (amt A)).sum - ((ks.filter fun k => decide (dfr D k = p)).map (amt A)).sum := by
  unfold netN dlt
  rw [sum_sub, ← sum_filter, ← sum_filter]
  simp
theorem net_ok {p : Str} (hd : DebtsR d D) (ha : SeqR a (A.map .int)) (hp : itemsD pd = some (ks.map nI)) (hk : ∀ k ∈ ks, k < D.length) (hk2 : ∀ k ∈ ks, k < A.length) (hl : ks.length ≤ 1000) (hn : okN D) (hq : PyData.strOk p = true) :
    run φ netF [d, a, pd, .str p] b = .ok (.int (netN D A ks p)) b := by
  have e1 : ∀ s4 : Sl, ev φ (.lc [5] (.idx (.var 1) (.var 5)) (.nm 5) (.var 2) (.cmp .eq (.idx (.idx (.var 0) (.var 5)) (.cst (.int 1))) (.var 3))) [.v d, .v a, .v pd, .v (.str p), s4, .no] b = .ok (.list ((ks.filter fun k => decide (dto D k = p)).map fun k => .int (amt A k))) b := fun s4 => by
    refine lc_filter_map (d := pd) (f := nI) (p := fun k => decide (dto D k = p)) rfl hp (Nat.le_trans hl (by decide)) fun k hkk => ⟨_, rfl, ?_, fun _ => ?_⟩
    · obtain ⟨x, q1, q2⟩ := hd.at (hk k hkk)
      have i2 := q2.i1
      have := eq_str (hn.at (hk k hkk)).2 hq
      simp [wipe, ev, getV, nI, q1, i2, this]
    · have q3 := amt_idx ha (hk2 k hkk)
      simp [wipe, ev, getV, nI, q3]
  have e0 : ∀ s4 : Sl, ev φ (.lc [5] (.idx (.var 1) (.var 5)) (.nm 5) (.var 2) (.cmp .eq (.idx (.idx (.var 0) (.var 5)) (.cst (.int 0))) (.var 3))) [.v d, .v a, .v pd, .v (.str p), s4, .no] b = .ok (.list ((ks.filter fun k => decide (dfr D k = p)).map fun k => .int (amt A k))) b := fun s4 => by
    refine lc_filter_map (d := pd) (f := nI) (p := fun k => decide (dfr D k = p)) rfl hp (Nat.le_trans hl (by decide)) fun k hkk => ⟨_, rfl, ?_, fun _ => ?_⟩
    · obtain ⟨x, q1, q2⟩ := hd.at (hk k hkk)
      have i2 := q2.i0 (y := .str (dto D k))
      have := eq_str (hn.at (hk k hkk)).1 hq
      simp [wipe, ev, getV, nI, q1, i2, this]
    · have q3 := amt_idx ha (hk2 k hkk)
      simp [wipe, ev, getV, nI, q3]
  have mm : ∀ l : List Nat, (l.map fun k => PyData.int (amt A k)) = (l.map (amt A)).map .int := fun l => by rw [List.map_map]; rfl
  simp only [mm] at e0 e1
  refine run_rt rfl (seq_nx (e1 := [.v d, .v a, .v pd, .v (.str p), .v (.int ((ks.filter fun k => decide (dto D k = p)).map (amt A)).sum), .no]) (b1 := b) (setS_of ?_) (seq_rt (ret_of ?_)))
  · show R.bind (R.bind (ev φ (.lc _ _ _ _ _) [.v d, .v a, .v pd, .v (.str p), .no, .no] b) _) _ = _
    rw [e1]
    simp only [bind_ok, ev, argsOf_list, sum_l]
    rfl
  · show R.bind _ _ = _
    show R.bind (R.bind (R.bind (ev φ (.lc _ _ _ _ _) [.v d, .v a, .v pd, .v (.str p), .v (.int _), .no] b) _) _) _ = _
    rw [e0, netN_eq]
    simp only [bind_ok, ev, argsOf_list, sum_l]
    rfl
def netsLF (ifolk inet : Nat) : Fn := { ps := 3, bx := false, fr := false, slots := 4, body := .seq (.ret (.lc [3] (.tup (.cons (.var 3) (.cons (.call inet (.cons (.var 0) (.cons (.var 1) (.cons (.var 2) (.cons (.var 3) (.nil)))))) (.nil)))) (.nm 3) (.call ifolk (.cons (.var 0) (.cons (.var 2) (.nil)))) (.cst (.bool true)))) (.nop) }
theorem folk_strOk {p : Str} (hn : okN D) (hk : ∀ k ∈ ks, k < D.length) (h : p ∈ folk D ks) : PyData.strOk p = true := by
  obtain ⟨k, h1, h2⟩ := List.mem_flatMap.mp (ppl_mem.mp h)
  have := hn.at (hk k h1)
  simp at h2
  rcases h2 with rfl | rfl
  · exact this.1
  · exact this.2
theorem netsL_ok {ifolk inet : Nat} {φ2 φ3 : Phi} (hf : ∀ as b, φ ifolk as b = run φ2 folkF as b) (hnet : ∀ as b, φ inet as b = run φ3 netF as b) (hd : DebtsR d D) (ha : SeqR a (A.map .int)) (hp : itemsD pd = some (ks.map nI)) (hk : ∀ k ∈ ks, k < D.length) (hk2 : ∀ k ∈ ks, k < A.length) (hl : ks.length ≤ 1000) (hn : okN D) :
    run φ (netsLF ifolk inet) [d, a, pd] b = .ok (.list ((folk D ks).map fun p => .tuple [.str p, .int (netN D A ks p)])) b := by
  refine run_rt rfl (seq_rt (ret_of ?_))
  show ev φ _ [.v d, .v a, .v pd, .no] b = _
  refine lc_map_map (d := .list ((folk D ks).map .str)) (f := .str) ?_ rfl (Nat.le_trans (folk_len D ks) (Nat.le_trans (by omega : 2 * ks.length ≤ 2000) (by decide))) fun p hpp => ⟨_, rfl, rfl, ?_⟩
  · have := folk_ok (φ := φ2) (b := b0) hd hp hk hl
    simp [ev, getV, startE, hf, this]
  · have := net_ok (φ := φ3) (b := b0) hd ha hp hk hk2 hl hn (folk_strOk hn hk hpp)
    show ev φ _ [.v d, .v a, .v pd, .v (.str p)] b = _
    simp [ev, getV, hnet, this, line]

/-! ### drawn ones -/
def TakeS (φ : Phi) (i : Nat) : Prop := ∀ (n : Int) (m : Nat) (b : Bx), 0 < n → n < 1073741824 → Bl (m + 1) b → ∃ r b', φ i [.int n] b = .ok (.int r) b' ∧ 0 ≤ r ∧ r < n ∧ Bl m b'
def OfS (φ : Phi) (i : Nat) : Prop := ∀ (xs : List P) (m : Nat) (b : Bx), 0 < xs.length → xs.length < 1000 → Bl (m + 1) b → ∃ x b', φ i [.list xs] b = .ok x b' ∧ x ∈ xs ∧ Bl m b'
theorem TakeS.mk {i : Nat} (h : ∀ as b, φ i as b = run φ' takeF as b) : TakeS φ i := fun n m b h1 h2 h3 => by
  rw [h]
  exact take_ok h1 h2 h3
theorem OfS.mk {i j : Nat} {φ2 : Phi} (h : ∀ as b, φ i as b = run φ2 (ofF j) as b) (h2 : ∀ as b, φ2 j as b = run φ' takeF as b) : OfS φ i := fun xs m b q1 q2 q3 => by
  rw [h]
  exact of_ok h2 q1 q2 q3
def debtsF (itake iof : Nat) : Fn := { ps := 1, bx := true, fr := false, slots := 7, body := .seq (.par2 2 false 3 true (.slc (.lst (.cons (.cst (.str "a")) (.cons (.cst (.str "ab")) (.cons (.cst (.str "b")) (.cons (.cst (.str "c")) (.cons (.cst (.str "zoe")) (.nil))))))) (.nil) (.bin .add (.cst (.int 2)) (.callB itake (.cons (.cst (.int 4)) (.nil))))) (.lst (.nil))) (.seq (.forr (.nm 4) (.rng (.cons (.callB itake (.cons (.bin .add (.var 1) (.cst (.int 1))) (.nil))) (.nil))) (.seq (.sett (.nm 5) (.callB iof (.cons (.var 2) (.nil)))) (.seq (.app 3 (.tup (.cons (.var 5) (.cons (.callB iof (.cons (.lc [6] (.var 6) (.nm 6) (.var 2) (.cmp .ne (.var 6) (.var 5))) (.nil))) (.nil))))) (.nop)))) (.seq (.ret (.bi .tuple_ (.cons (.ovar 3) (.nil)))) (.nop))) }
theorem wp_par2 {e : Env} {N : Env → Bx → Prop} {T : P → Bx → Prop} {i j : Nat} {oi oj : Bool} {x y : IE} (h : We (ev φ x e b) fun d b1 => We (ev φ y e b1) fun d2 b2 => N ((e.set i (mkSl oi d)).set j (mkSl oj d2)) b2) : Wp (ex φ (.par2 i oi j oj x y) e b) N T :=
  out_we (h.imp fun d b1 h1 => out_we h1)
theorem wp_par3 {e : Env} {N : Env → Bx → Prop} {T : P → Bx → Prop} {i j l : Nat} {oi oj ol : Bool} {x y z : IE} (h : We (ev φ x e b) fun d b1 => We (ev φ y e b1) fun d2 b2 => We (ev φ z e b2) fun d3 b3 => N (((e.set i (mkSl oi d)).set j (mkSl oj d2)).set l (mkSl ol d3)) b3) : Wp (ex φ (.par3 i oi j oj l ol x y z) e b) N T :=
  out_we (h.imp fun d b1 h1 => out_we (h1.imp fun d2 b2 h2 => out_we h2))
/-- the names that are drawn from -/
def names5 : List Str := ["a", "ab", "b", "c", "zoe"]
/-- two names that differ, at least -/
def tags2 (ns : List Str) : Prop := 2 ≤ ns.length ∧ ns.length ≤ 5 ∧ ns.Nodup ∧ ∀ x ∈ ns, PyData.strOk x = true
theorem other {ns : List Str} {x : Str} (h : tags2 ns) : 0 < (ns.filter fun y => !decide (y = x)).length := by
  match ns, h with
  | u :: v :: r, ⟨_, _, h, _⟩ =>
    have h : u ≠ v := fun e => (List.nodup_cons.mp h).1 (by rw [e]; exact List.mem_cons_self)
    by_cases q : u = x
    · have q2 : ¬ v = x := fun e => h (by rw [q, e])
      exact List.length_pos_of_mem (a := v) (List.mem_filter.mpr ⟨by simp, by simp [q2]⟩)
    · exact List.length_pos_of_mem (a := u) (List.mem_filter.mpr ⟨by simp, by simp [q]⟩)
theorem ne_str {i j : Str} (h1 : PyData.strOk i = true) (h2 : PyData.strOk j = true) : cmpD .ne (.str i) (.str j) = some (!decide (i = j)) := by
  simp [cmpD, eqD, shaped_str h1, shaped_str h2, PyData.eqv, beq_dec]
theorem debts_ok {itake iof n m : Nat} (ht : TakeS φ itake) (ho : OfS φ iof) (hn : n ≤ 100) (hb : Bl (m + 2 * n + 2) b) : We (run φ (debtsF itake iof) [.int (n : Int)] b) fun d b' => ∃ D, d = dT D ∧ D.length ≤ n ∧ okN D ∧ (∀ p ∈ D, p.1 ≠ p.2 ∧ p.1 ∈ names5 ∧ p.2 ∈ names5) ∧ Bl m b' := by
  refine we_run rfl ?_
  obtain ⟨r, b1, t1, t2, t3, t4⟩ := ht 4 (m + 2 * n + 1) b (by decide) (by decide) hb
  obtain ⟨r2, b2, u1, u2, u3, u4⟩ := ht ((n : Int) + 1) (m + 2 * n) b1 (by omega) (by omega) t4
  have hs : ∃ ns : List Str, (tags2 ns ∧ ∀ x ∈ ns, x ∈ names5) ∧ slcD (.list [.str "a", .str "ab", .str "b", .str "c", .str "zoe"]) none (some (2 + r)) = some (.list (ns.map .str)) := by
    have : r = 0 ∨ r = 1 ∨ r = 2 ∨ r = 3 := by omega
    rcases this with rfl | rfl | rfl | rfl
    · exact ⟨["a", "ab"], ⟨⟨by decide, by decide, by decide +kernel, by decide +kernel⟩, by decide +kernel⟩, rfl⟩
    · exact ⟨["a", "ab", "b"], ⟨⟨by decide, by decide, by decide +kernel, by decide +kernel⟩, by decide +kernel⟩, rfl⟩
    · exact ⟨["a", "ab", "b", "c"], ⟨⟨by decide, by decide, by decide +kernel, by decide +kernel⟩, by decide +kernel⟩, rfl⟩
    · exact ⟨["a", "ab", "b", "c", "zoe"], ⟨⟨by decide, by decide, by decide +kernel, by decide +kernel⟩, by decide +kernel⟩, rfl⟩
  obtain ⟨ns, ⟨hns, hn5⟩, hs⟩ := hs
  refine wp_seq (wp_par2 (.of_eq (a := .list (ns.map .str)) (b := b1) ?_ (.of_eq (a := .list []) (b := b1) rfl ?_)))
  · show ev φ (.slc (.lst (.cons (.cst (.str "a")) (.cons (.cst (.str "ab")) (.cons (.cst (.str "b")) (.cons (.cst (.str "c")) (.cons (.cst (.str "zoe")) (.nil))))))) (.nil) (.bin .add (.cst (.int 2)) (.callB itake (.cons (.cst (.int 4)) (.nil))))) [.no, .v (.int (n : Int)), .no, .no, .no, .no, .no] b = _
    simp [ev, t1, partE, hs, line]
  · refine wp_seq (wp_for (fun rest e b' => ∃ D e4 e5, e = [.no, .v (.int (n : Int)), .v (.list (ns.map .str)), .o (.list (D.map fun p : Str × Str => .tuple [.str p.1, .str p.2])), e4, e5, .no] ∧ D.length + rest.length ≤ n ∧ okN D ∧ (∀ p ∈ D, p.1 ≠ p.2 ∧ p.1 ∈ names5 ∧ p.2 ∈ names5) ∧ Bl (m + 2 * rest.length) b') (.of_eq (a := .list (rngUp 0 r2.toNat)) (b := b2) ?_ ?_) ?_ ?_)
    · have e1 : rngD [.int r2] = some (rngUp 0 r2.toNat) := by
        have := rng_n (n := r2.toNat) (by omega)
        rwa [show ((r2.toNat : Nat) : Int) = r2 by omega] at this
      show ev φ _ [.no, .v (.int (n : Int)), .v (.list (ns.map .str)), .o (.list []), .no, .no, .no] b1 = _
      simp [ev, getV, u1, e1]
    · refine ⟨_, rfl, [], _, _, rfl, ?_, (fun p hp => by cases hp), (fun p hp => by cases hp), ?_⟩
      · rw [rngUp_len', List.length_nil]; omega
      · rw [rngUp_len']; exact u4.le (by omega)
    · rintro x xs e b' ⟨D, e4, e5, rfl, h1, h2, h3, h4⟩
      rw [List.length_cons] at h1 h4
      obtain ⟨y, b3, o1, o2, o3⟩ := ho (ns.map .str) (m + 2 * xs.length + 1) b' (by rw [List.length_map]; have := hns.1; omega) (by rw [List.length_map]; have := hns.2.1; omega) (h4.le (by omega))
      obtain ⟨p, hp, rfl⟩ := List.mem_map.mp o2
      have hf := other (x := p) hns
      have hfl : (ns.filter fun y => !decide (y = p)).length ≤ 5 := Nat.le_trans (List.length_filter_le _ _) hns.2.1
      obtain ⟨z, b4, v1, v2, v3⟩ := ho ((ns.filter fun y => !decide (y = p)).map .str) (m + 2 * xs.length) b3 (by rw [List.length_map]; exact hf) (by rw [List.length_map]; omega) (o3.le (by omega))
      obtain ⟨q, hq, rfl⟩ := List.mem_map.mp v2
      obtain ⟨hq1, hq2⟩ := List.mem_filter.mp hq
      have hlc : ev φ (.lc [6] (.var 6) (.nm 6) (.var 2) (.cmp .ne (.var 6) (.var 5))) [.no, .v (.int (n : Int)), .v (.list (ns.map .str)), .o (.list (D.map fun p : Str × Str => .tuple [.str p.1, .str p.2])), .v x, .v (.str p), .no] b3 = .ok (.list ((ns.filter fun y => !decide (y = p)).map .str)) b3 := by
        refine lc_filter_map (d := .list (ns.map .str)) (f := .str) (p := fun y => !decide (y = p)) (g := .str) rfl rfl (by have := hns.2.1; exact Nat.le_trans this (by decide)) fun y hy => ⟨_, rfl, ?_, fun _ => rfl⟩
        have := ne_str (hns.2.2.2 y hy) (hns.2.2.2 p hp)
        simp [wipe, ev, getV, this]
      refine ⟨_, rfl, wp_seq (wp_sett (.of_eq (a := .str p) (b := b3) ?_ ⟨_, rfl, wp_seq (wp_app rfl (.of_eq (a := .tuple [.str p, .str q]) (b := b4) ?_ ⟨?_, wp_nop ?_⟩))⟩))⟩
      · show ev φ (.callB iof _) [.no, .v (.int (n : Int)), .v (.list (ns.map .str)), .o (.list (D.map fun p : Str × Str => .tuple [.str p.1, .str p.2])), .v x, e5, .no] b' = _
        simp [ev, getV, o1]
      · show ev φ (.tup (.cons (.var 5) (.cons (.callB iof (.cons (.lc [6] (.var 6) (.nm 6) (.var 2) (.cmp .ne (.var 6) (.var 5))) (.nil))) (.nil)))) [.no, .v (.int (n : Int)), .v (.list (ns.map .str)), .o (.list (D.map fun p : Str × Str => .tuple [.str p.1, .str p.2])), .v x, .v (.str p), .no] b3 = _
        simp [ev_tup, ev_cons, ev_nil, ev_callB, hlc, v1, line, ev_var, getV]
      · rw [List.length_map]; exact Nat.lt_of_le_of_lt (by omega : D.length ≤ 100) (by decide)
      · refine ⟨D ++ [(p, q)], .v x, .v (.str p), ?_, ?_, ?_, ?_, v3⟩
        · rw [List.map_append]; rfl
        · rw [List.length_append, List.length_singleton]; omega
        · intro w hw
          rcases List.mem_append.mp hw with hw | hw
          · exact h2 w hw
          · rw [List.mem_singleton.mp hw]
            exact ⟨hns.2.2.2 p hp, hns.2.2.2 q hq1⟩
        · intro w hw
          rcases List.mem_append.mp hw with hw | hw
          · exact h3 w hw
          · rw [List.mem_singleton.mp hw]
            refine ⟨fun e => ?_, hn5 p hp, hn5 q hq1⟩
            have e : p = q := e
            rw [e] at hq2
            simp at hq2
    · rintro e b' ⟨D, e4, e5, rfl, h1, h2, h3, h4⟩
      refine wp_seq (wp_ret (.of_eq (a := dT D) (b := b') ?_ ⟨D, rfl, by simpa using h1, h2, h3, by simpa using h4⟩))
      simp [ev, getO, tuple_l, dT]
def sumsF (iof : Nat) : Fn := { ps := 1, bx := true, fr := false, slots := 3, body := .seq (.ret (.bi .tuple_ (.cons (.lc [2] (.callB iof (.cons (.lst (.cons (.cst (.int 0)) (.cons (.cst (.int 1)) (.cons (.cst (.int 1)) (.cons (.cst (.int 2)) (.cons (.cst (.int 3)) (.cons (.cst (.int 5)) (.cons (.cst (.int 9)) (.cons (.bin .pow (.cst (.int 10)) (.cst (.int 30))) (.nil)))))))))) (.nil))) (.nm 2) (.var 1) (.cst (.bool true))) (.nil)))) (.nop) }
theorem sums_ok {iof m : Nat} {xs : List P} (ho : OfS φ iof) (hx : itemsD d = some xs) (hl : xs.length ≤ 1000) (hb : Bl (m + xs.length) b) : We (run φ (sumsF iof) [d] b) fun r b' => ∃ A : List Int, r = .tuple (A.map .int) ∧ A.length = xs.length ∧ (∀ x ∈ A, 0 ≤ x) ∧ Bl m b' := by
  refine we_run rfl (wp_seq (wp_ret ?_))
  have h : We (ev φ (.lc [2] (.callB iof (.cons (.lst (.cons (.cst (.int 0)) (.cons (.cst (.int 1)) (.cons (.cst (.int 1)) (.cons (.cst (.int 2)) (.cons (.cst (.int 3)) (.cons (.cst (.int 5)) (.cons (.cst (.int 9)) (.cons (.bin .pow (.cst (.int 10)) (.cst (.int 30))) (.nil)))))))))) (.nil))) (.nm 2) (.var 1) (.cst (.bool true))) [.no, .v d, .no] b) fun r b' => ∃ A : List Int, r = .list (A.map .int) ∧ A.length = xs.length ∧ (∀ x ∈ A, 0 ≤ x) ∧ Bl m b' := by
    refine we_lc (fun rest acc b' => ∃ A : List Int, acc = A.map .int ∧ A.length + rest.length = xs.length ∧ (∀ x ∈ A, 0 ≤ x) ∧ Bl (m + rest.length) b') (.of_eq rfl ⟨xs, hx, Nat.le_trans hl (by decide), [], rfl, by simp, by simp, hb⟩) ?_ ?_
    · rintro x rest acc b' ⟨A, rfl, h1, h2, h3⟩
      rw [List.length_cons] at h1 h3
      refine ⟨_, rfl, .of_eq rfl (.inl ⟨rfl, ?_⟩)⟩
      obtain ⟨y, b3, o1, o2, o3⟩ := ho ([0, 1, 1, 2, 3, 5, 9, 10 ^ 30].map .int) (m + rest.length) b' (by decide) (by decide) (h3.le (by omega))
      obtain ⟨v, hv, rfl⟩ := List.mem_map.mp o2
      refine .of_eq (a := .int v) (b := b3) ?_ ⟨A ++ [v], by rw [List.map_append]; rfl, by rw [List.length_append, List.length_singleton]; omega, ?_, o3⟩
      · have e3 : binD .pow (.int 10) (.int 30) = some (.int (10 ^ 30)) := rfl
        have o1 : φ iof [.list [.int 0, .int 1, .int 1, .int 2, .int 3, .int 5, .int 9, .int (10 ^ 30)]] b' = .ok (.int v) b3 := o1
        simp only [ev, bind_ok, e3, ofO_some, argsOf_list, List.length_cons, List.length_nil, line]
        simp only [Nat.reduceAdd, Nat.reduceLeDiff, if_true, bind_ok, argsOf_list]
        exact o1
      · intro w hw
        rcases List.mem_append.mp hw with hw | hw
        · exact h2 w hw
        · rw [List.mem_singleton.mp hw]
          have : ∀ u ∈ ([0, 1, 1, 2, 3, 5, 9, 10 ^ 30] : List Int), 0 ≤ u := by decide
          exact this v hv
    · rintro acc b' ⟨A, rfl, h1, h2, h3⟩
      exact ⟨A, rfl, by simpa using h1, h2, by simpa using h3⟩
  obtain ⟨r, b', h1, A, rfl, h2, h3, h4⟩ := h.get
  refine .of_eq (a := .tuple (A.map .int)) (b := b') ?_ ⟨A, rfl, h2, h3, h4⟩
  show R.bind (R.bind (ev φ (.lc _ _ _ _ _) [.no, .v d, .no] b) _) _ = _
  rw [h1]
  simp [ev, tuple_l]
theorem maxI_of : ∀ {ns : List Int} {m : Int}, m ∈ ns → (∀ y ∈ ns, y ≤ m) → maxI ns = some m := by
  intro ns
  have ex : ∀ ns : List Int, ns ≠ [] → ∃ m, maxI ns = some m ∧ m ∈ ns ∧ ∀ y ∈ ns, y ≤ m := by
    intro ns
    induction ns with
    | nil => intro h; exact absurd rfl h
    | cons x xs ih =>
      intro _
      cases xs with
      | nil => exact ⟨x, rfl, by simp, by simp⟩
      | cons y ys =>
        obtain ⟨m, h1, h2, h3⟩ := ih (by simp)
        by_cases q : m < x
        · refine ⟨x, by rw [maxI, h1]; simp [q], by simp, fun z hz => ?_⟩
          rcases List.mem_cons.mp hz with rfl | hz
          · omega
          · have := h3 z hz; omega
        · refine ⟨m, by rw [maxI, h1]; simp [q], List.mem_cons_of_mem _ h2, fun z hz => ?_⟩
          rcases List.mem_cons.mp hz with rfl | hz
          · omega
          · exact h3 z hz
  intro m h1 h2
  obtain ⟨m', e1, e2, e3⟩ := ex ns (List.ne_nil_of_mem h1)
  have a1 := e3 m h1
  have a2 := h2 m' e2
  rw [e1, show m' = m by omega]
def bookF (itake : Nat) : Fn := { ps := 1, bx := true, fr := false, slots := 4, body := .seq (.set 2 true (.lst (.nil))) (.seq (.forr (.nm 3) (.rng (.cons (.var 1) (.nil))) (.seq (.app 2 (.callB itake (.cons (.bin .add (.bi .max (.cons (.bin .add (.lst (.cons (.neg (.cst (.int 1))) (.nil))) (.ovar 2)) (.nil))) (.cst (.int 2))) (.nil)))) (.nop))) (.seq (.ret (.bi .tuple_ (.cons (.ovar 2) (.nil)))) (.nop))) }
/-- the numbers of a list are those from 0 on -/
def full (B : List Int) (n : Nat) : Prop := ∀ j : Int, j ∈ B ↔ 0 ≤ j ∧ j < n
theorem full_max {B : List Int} {n : Nat} (h : full B n) : maxI (-1 :: B) = some ((n : Int) - 1) := by
  refine maxI_of ?_ ?_
  · by_cases q : n = 0
    · subst q; simp
    · exact List.mem_cons_of_mem _ ((h _).mpr ⟨by omega, by omega⟩)
  · intro y hy
    rcases List.mem_cons.mp hy with rfl | hy
    · omega
    · have := (h y).mp hy; omega
theorem full_app {B : List Int} {n : Nat} {r : Int} (h : full B n) (h0 : 0 ≤ r) (h1 : r < (n : Int) + 1) : ∃ n', full (B ++ [r]) n' ∧ n' ≤ n + 1 := by
  by_cases q : r < n
  · refine ⟨n, fun j => ?_, by omega⟩
    rw [List.mem_append, List.mem_singleton, h j]
    constructor
    · rintro (h | rfl)
      · exact h
      · exact ⟨h0, q⟩
    · exact .inl
  · refine ⟨n + 1, fun j => ?_, by omega⟩
    rw [List.mem_append, List.mem_singleton, h j]
    constructor
    · rintro (h | rfl)
      · omega
      · omega
    · intro h
      by_cases c : j < n
      · exact .inl ⟨h.1, c⟩
      · exact .inr (by omega)
theorem book_ok {itake n m : Nat} (ht : TakeS φ itake) (hn : n ≤ 1000) (hb : Bl (m + n) b) : We (run φ (bookF itake) [.int (n : Int)] b) fun r b' => ∃ B : List Int, r = .tuple (B.map .int) ∧ B.length = n ∧ (∃ c, full B c) ∧ Bl m b' := by
  refine we_run rfl ?_
  refine wp_seq (wp_set (.of_eq (a := .list []) (b := b) rfl ?_))
  refine wp_seq (wp_for (fun rest e b' => ∃ (B : List Int) (c : Nat) (e3 : Sl), e = [.no, .v (.int (n : Int)), .o (.list (B.map .int)), e3] ∧ B.length + rest.length = n ∧ full B c ∧ c ≤ B.length ∧ Bl (m + rest.length) b') (.of_eq (a := .list (rngUp 0 n)) (b := b) ?_ ?_) ?_ ?_)
  · show ev φ _ [.no, .v (.int (n : Int)), .o (.list []), .no] b = _
    simp [ev, getV, rng_n hn]
  · exact ⟨_, rfl, [], 0, _, rfl, by rw [rngUp_len']; simp, (fun j => ⟨fun h => (by cases h), fun h => (by omega)⟩), Nat.le_refl _, by rw [rngUp_len']; exact hb⟩
  · rintro x xs e b' ⟨B, c, e3, rfl, h1, h2, h3, h4⟩
    rw [List.length_cons] at h1 h4
    obtain ⟨r, b2, t1, t2, t3, t4⟩ := ht ((c : Int) - 1 + 2) (m + xs.length) b' (by omega) (by omega) (h4.le (by omega))
    obtain ⟨c', h5, h6⟩ := full_app h2 t2 (by omega)
    refine ⟨_, rfl, wp_seq (wp_app rfl (.of_eq (a := .int r) (b := b2) ?_ ⟨?_, wp_nop ⟨B ++ [r], c', .v x, ?_, ?_, h5, ?_, t4⟩⟩))⟩
    · show ev φ _ [.no, .v (.int (n : Int)), .o (.list (B.map .int)), .v x] b' = _
      have e1 : binD .add (.list [.int (-1)]) (.list (B.map .int)) = some (.list ((-1 :: B).map .int)) := add_l (by rw [List.length_map]; exact Nat.le_trans (by show 1 + B.length ≤ 1001; omega) (by decide))
      have e2 : biD .max [.list (.int (-1) :: B.map .int)] = some (.int ((c : Int) - 1)) := by
        show ((intsOf ((-1 :: B).map .int)).bind maxI).map PyData.int = _
        rw [ints_map]
        show (maxI (-1 :: B)).map PyData.int = _
        rw [full_max h2]; rfl
      simp only [ev, getO, bind_ok, ofO_some, List.getElem?_cons_zero, List.getElem?_cons_succ, argsOf_list, List.length_singleton, List.length_cons, List.length_nil, line, e1, e2, add_i, t1]
      simp [e1, e2, t1]
    · rw [List.length_map]; exact Nat.lt_of_le_of_lt (by omega : B.length ≤ 1000) (by decide)
    · rw [List.map_append]; rfl
    · rw [List.length_append, List.length_singleton]; omega
    · rw [List.length_append, List.length_singleton]; omega
  · rintro e b' ⟨B, c, e3, rfl, h1, h2, h3, h4⟩
    refine wp_seq (wp_ret (.of_eq (a := .tuple (B.map .int)) (b := b') ?_ ⟨B, rfl, by simpa using h1, ⟨c, h2⟩, by simpa using h4⟩))
    simp [ev, getO, tuple_l]
theorem full_book {B : List Int} {c : Nat} {d : P} (h : full B c) (hd : SeqR d (B.map .int)) (hl : B.length ≤ 1000) : BookR d B := ⟨hd, hl, fun k hk => by rw [nums_full h]; exact (h k).mp hk⟩
end
end Dv
/-! text CP -/
set_option Elab.async false
set_option linter.all false
set_option maxRecDepth 100000
set_option maxHeartbeats 4000000
namespace Dv
open PySem

/-! ### all people, a person that is not there -/
theorem nin_strs {l : List Str} {p : Str} (hp : PyData.strOk p = true) (hl : ∀ x ∈ l, PyData.strOk x = true) (hn : l.length ≤ line) : cmpD .nin (.str p) (.tuple (l.map .str)) = some (!decide (p ∈ l)) := by
  have g1 : SeqAt.shaped (.str p) = true := shaped_str hp
  have g2 : SeqAt.shaped (.tuple (l.map .str)) = true := gd_shaped (n := 1) (gd_tuple (by rw [List.length_map]; exact hn) fun x hx => by
    obtain ⟨y, hy, rfl⟩ := List.mem_map.mp hx
    exact hl y hy) (by decide)
  show (if SeqAt.shaped (.str p) && SeqAt.shaped (.tuple (l.map .str)) then some (!(l.map PyData.str).any fun z => PyData.eqv z (.str p)) else none) = _
  rw [g1, g2]
  show some _ = some _
  congr 2
  rw [List.any_map, Bool.eq_iff_iff, List.any_eq_true, decide_eq_true_eq]
  constructor
  · rintro ⟨x, hx, e⟩
    have e : PyData.eqv (.str x) (.str p) = true := e
    simp [PyData.eqv] at e
    rw [← e]
    exact hx
  · intro h
    exact ⟨p, h, by show PyData.eqv (.str p) (.str p) = true; simp [PyData.eqv]⟩
theorem run_nx {φ : Phi} {f : Fn} {as : List P} {b b1 : Bx} {e : Env} (h : as.length = f.ps) (q : ex φ f.body (startE f.bx f.slots as) b = .nx e b1) : run φ f as b = .ok .none b1 := by
  unfold run
  rw [if_pos h, q]
theorem run_xx {φ : Phi} {f : Fn} {as : List P} {b b1 : Bx} {e : Env} {c : Nat} {d : Option P} (h : as.length = f.ps) (q : ex φ f.body (startE f.bx f.slots as) b = .xx e c d b1) : run φ f as b = .ex c d b1 := by
  unfold run
  rw [if_pos h, q]
def allK (D : List (Str × Str)) : List Nat := List.range D.length
theorem lrg_of {φ : Phi} {e : Env} {b : Bx} {d : P} {n : Nat} {i : Nat} (hg : getV e i = some d) (hl : lenD d = some (n : Int)) (hn : n ≤ 1000) : ev φ (.lrg (.cons (.bi .len (.cons (.var i) (.nil))) (.nil))) e b = .ok (.list ((List.range n).map nI)) b := by
  have e1 := rng_n hn
  have e2 : (rngUp 0 n).length ≤ line := by rw [rngUp_len']; exact Nat.le_trans hn (by decide)
  simp [ev, hg, hl, e1, e2, rng0] at e2 ⊢
  exact e2
theorem DebtsR.len {d : P} {D : List (Str × Str)} (h : DebtsR d D) : lenD d = some (D.length : Int) := by
  obtain ⟨xs, h1, h2, _⟩ := h
  rw [h1.len, h2]
section
variable {φ φ' : Phi} {b : Bx} {d a : P} {D : List (Str × Str)} {A B : List Int}
def peopleAllF (ipeople : Nat) : Fn := { ps := 1, bx := false, fr := false, slots := 1, body := .seq (.ret (.call ipeople (.cons (.var 0) (.cons (.lrg (.cons (.bi .len (.cons (.var 0) (.nil))) (.nil))) (.nil))))) (.nop) }
theorem people_all_ok {ipeople iset : Nat} {ψ : Phi} (hpp : ∀ as b, φ ipeople as b = run φ' (peopleF iset) as b) (hset : ∀ as b, φ' iset as b = run ψ setOfF as b) (hd : DebtsR d D) (hl : D.length ≤ 1000) : run φ (peopleAllF ipeople) [d] b = .ok (.tuple ((folk D (allK D)).map .str)) b := by
  refine run_rt rfl (seq_rt (ret_of ?_))
  show ev φ _ [.v d] b = _
  have e1 := lrg_of (φ := φ) (e := [.v d]) (b := b) (i := 0) rfl hd.len hl
  have e2 := people_ok (φ := φ') (b := b0) hset hd (pd := .list ((allK D).map nI)) (ks := allK D) rfl (fun k hk => List.mem_range.mp hk) (by unfold allK; rw [List.length_range]; exact hl)
  simp only [ev_call, ev_cons, ev_nil, e1, ev_var, getV, List.getElem?_cons_zero, ofO_some, bind_ok, argsOf_list, hpp]
  unfold allK at e2 ⊢
  rw [e2]
def checkF (ipa c : Nat) : Fn := { ps := 2, bx := false, fr := false, slots := 4, body := .seq (.set 2 false (.call ipa (.cons (.var 0) (.nil)))) (.seq (.forr (.nm 3) (.var 1) (.seq (.iff (.cmp .nin (.var 3) (.var 2)) (.seq (.raise c (some (.var 3))) (.nop)) (.nop)) (.nop))) (.nop)) }
theorem check_ok {ipa c : Nat} {l : List Str} {p : Str} (hpa : ∀ b, φ ipa [d] b = .ok (.tuple (l.map .str)) b) (hp : PyData.strOk p = true) (hl : ∀ x ∈ l, PyData.strOk x = true) (hn : l.length ≤ line) (h : p ∈ l) : run φ (checkF ipa c) [d, .list [.str p]] b = .ok .none b := by
  have e1 := nin_strs hp hl hn
  rw [decide_eq_true h] at e1
  refine run_nx (e := [.v d, .v (.list [.str p]), .v (.tuple (l.map .str)), .v (.str p)]) rfl ?_
  simp [checkF, ex, ev, startE, getV, List.replicate, hpa, asgn, e1, forL]
theorem check_no {ipa c : Nat} {l : List Str} {p : Str} (hpa : ∀ b, φ ipa [d] b = .ok (.tuple (l.map .str)) b) (hp : PyData.strOk p = true) (hl : ∀ x ∈ l, PyData.strOk x = true) (hn : l.length ≤ line) (h : p ∉ l) : run φ (checkF ipa c) [d, .list [.str p]] b = .ex c (some (.str p)) b := by
  have e1 := nin_strs hp hl hn
  rw [decide_eq_false h] at e1
  refine run_xx (e := [.v d, .v (.list [.str p]), .v (.tuple (l.map .str)), .v (.str p)]) rfl ?_
  simp [checkF, ex, ev, startE, getV, List.replicate, hpa, asgn, e1, forL]
/-! try -/
theorem tryx_nx {e e1 : Env} {b1 : Bx} {i c j : Nat} {s : Str} {x : IS} (h : ex φ x e b = .nx e1 b1) : ex φ (.tryx i x c j s) e b = .nx e1 b1 := by
  show (match ex φ x e b with
    | .xx e1 c' (some d) b1 => if c' = c then Out.nx (((e1.set i .no).set j (.v (.list [.str s, d, .bool true]))).set i .no) b1 else .no
    | .xx _ _ none _ => .no
    | .nx e1 b1 => .nx e1 b1
    | .rt d b1 => .rt d b1
    | .no => .no) = _
  rw [h]
theorem tryx_xx {e e1 : Env} {b1 : Bx} {i c j : Nat} {s : Str} {x : IS} {d : P} (h : ex φ x e b = .xx e1 c (some d) b1) : ex φ (.tryx i x c j s) e b = .nx (((e1.set i .no).set j (.v (.list [.str s, d, .bool true]))).set i .no) b1 := by
  show (match ex φ x e b with
    | .xx e1 c' (some d) b1 => if c' = c then Out.nx (((e1.set i .no).set j (.v (.list [.str s, d, .bool true]))).set i .no) b1 else .no
    | .xx _ _ none _ => .no
    | .nx e1 b1 => .nx e1 b1
    | .rt d b1 => .rt d b1
    | .no => .no) = _
  rw [h]
  show (if c = c then _ else Out.no) = _
  rw [if_pos rfl]
/-! nets by .get -/
theorem net_out {ks : List Nat} {p : Str} (h : p ∉ folk D ks) : netN D A ks p = 0 := by
  unfold netN
  have : ks.map (dlt D A p) = ks.map fun _ => 0 := List.map_congr_left fun k hk => by
    have h1 : ¬ dto D k = p := fun e => h (by rw [← e]; exact folk_to hk)
    have h2 : ¬ dfr D k = p := fun e => h (by rw [← e]; exact folk_from hk)
    unfold dlt
    rw [if_neg h1, if_neg h2]
    rfl
  rw [this, sum_zero]
theorem get_lock {ks : List Nat} {p : Str} : mthD .get2 (lockOf (folk D ks) (netN D A ks)) [.str p, .int 0] = some (.int (netN D A ks p)) := by
  show (dgetD (lockOf (folk D ks) (netN D A ks)) (.str p)).map (fun o => o.getD (PyData.int 0)) = _
  have : dgetD (lockOf (folk D ks) (netN D A ks)) (.str p) = some (dfind (dictOf (folk D ks) (netN D A ks)) (.str p)) := by
    show (if keyOk (dTq (dictOf (folk D ks) (netN D A ks))) (.str p) = true then some (dfind (dictOf (folk D ks) (netN D A ks)) (.str p)) else none) = _
    rw [dTq_of]
    rfl
  rw [this]
  by_cases h : p ∈ folk D ks
  · rw [dfind_of h]; rfl
  · rw [dfind_no h, net_out h]; rfl
/-- in all pots together -/
theorem lots_sum {f : Nat → Int} {m : Nat} : ∀ (B : List Int) (i : Nat), (∀ k ∈ B, 0 ≤ k ∧ k < m) → ((List.range m).map fun j => ((plc i B j).map f).sum).sum = ((List.range B.length).map fun k => f (i + k)).sum
  | [], i, _ => by
    show ((List.range m).map fun _ => (0 : Int)).sum = 0
    exact sum_zero _
  | c :: B, i, h => by
    obtain ⟨h1, h2⟩ := h c List.mem_cons_self
    have ih := lots_sum (f := f) B (i + 1) fun k hk => h k (List.mem_cons_of_mem _ hk)
    have e : ∀ j : Nat, ((plc i (c :: B) j).map f).sum = (if c.toNat = j then f i else 0) + ((plc (i + 1) B j).map f).sum := fun j => by
      rw [plc]
      by_cases q : c = (j : Int)
      · rw [if_pos q, if_pos (by omega), List.map_cons, List.sum_cons]
      · rw [if_neg q, if_neg (by omega)]
        omega
    simp only [e]
    rw [sum_add, ih, List.length_cons, List.range_succ_eq_map, List.map_cons, List.sum_cons, List.map_map]
    have one : ((List.range m).map fun j => if c.toNat = j then f i else 0).sum = f i := by
      have key : ∀ (l : List Nat), l.Nodup → c.toNat ∈ l → (l.map fun j => if c.toNat = j then f i else 0).sum = f i := by
        intro l
        induction l with
        | nil => intro _ hm; cases hm
        | cons x l ihl =>
          intro hn hm
          have hn := List.nodup_cons.mp hn
          rw [List.map_cons, List.sum_cons]
          by_cases q : c.toNat = x
          · rw [if_pos q]
            have z : (l.map fun j => if c.toNat = j then f i else 0) = l.map fun _ => 0 := List.map_congr_left fun j hj => if_neg fun e => hn.1 (by rw [← q, e]; exact hj)
            rw [z, sum_zero]
            omega
          · rw [if_neg q, ihl hn.2 ((List.mem_cons.mp hm).resolve_left q)]
            omega
      exact key _ List.nodup_range (List.mem_range.mpr (by omega))
    rw [one]
    have e2 : ((List.range B.length).map fun k => f (i + 1 + k)) = (List.range B.length).map ((fun k => f (i + k)) ∘ Nat.succ) := by
      apply List.map_congr_left
      intro k _
      show f (i + 1 + k) = f (i + (k + 1))
      congr 1
      omega
    rw [e2]
    rfl
theorem lots_net {p : Str} (hb : ∀ k ∈ B, 0 ≤ k ∧ k < (nums B).length) (hl : D.length = B.length) : ((lots (nums B).length B).map fun l => netN D A l p).sum = netN D A (allK D) p := by
  unfold lots netN allK
  rw [List.map_map, hl]
  have := lots_sum (f := dlt D A p) (m := (nums B).length) B 0 hb
  simp only [Nat.zero_add] at this
  exact this
end
end Dv
/-! text CQ -/
set_option Elab.async false
set_option linter.all false
set_option maxRecDepth 100000
set_option maxHeartbeats 4000000
namespace Dv
open PySem
/-! ### the keys of a dict by names, in order -/
theorem alike_strs (l : List Str) : allAlike (l.map .str) = true := by
  simp only [allAlike, List.all_map, List.all_eq_true]
  exact fun x _ => List.all_eq_true.mpr fun y _ => by simp [PySem.W.alike]
theorem sort_ppl (ns : List Str) : sortD leD ((ppl ns).map .str) = (ppl ns).map .str := by
  have e1 : (ppl ns).map PyData.str = sortD leD ((dedG [] ns).map .str) := by rw [sortG_map]; rfl
  have p : ((ppl ns).map PyData.str).Perm ((dedG [] ns).map .str) := (sortG_perm _ _).map _
  rw [sortD_perm p fun a ha b hb h1 h2 => ?_, ← e1]
  obtain ⟨x, _, rfl⟩ := List.mem_map.mp ha
  obtain ⟨y, _, rfl⟩ := List.mem_map.mp hb
  exact leD_anti (a := .inr x) (b := .inr y) (by simp [keyD, PySem.W.alike]) h1 h2
theorem sorted_lock {ns : List Str} {f : Str → Int} (h : (ppl ns).length ≤ line) : biD .sorted [lockOf (ppl ns) f] = some (.list ((ppl ns).map .str)) := by
  show fSortedD (lMark :: dictOf (ppl ns) f) = _
  have e1 : dTq (lMark :: dictOf (ppl ns) f) = false := dTq_of _ _
  have e2 : dcut (lMark :: dictOf (ppl ns) f) = dictOf (ppl ns) f := dcut_of _ _
  have e3 : (dictOf (ppl ns) f).map (·.1) = (ppl ns).map .str := by unfold dictOf; rw [List.map_map]; rfl
  have e4 : (dictOf (ppl ns) f).length = (ppl ns).length := by unfold dictOf; rw [List.length_map]
  unfold fSortedD
  rw [e1, e2, e3, e4, alike_strs, Nat.ble_eq_true_of_le h, sort_ppl]
  rfl
theorem folk_lock {D : List (Str × Str)} {ks : List Nat} {f : Str → Int} (h : ks.length ≤ 1000) : biD .sorted [lockOf (folk D ks) f] = some (.list ((folk D ks).map .str)) := sorted_lock (Nat.le_trans (folk_len D ks) (Nat.le_trans (by omega : 2 * ks.length ≤ 2000) (by decide)))
end Dv
/-! text M_k07 -/
set_option Elab.async false
set_option linter.all false
set_option maxRecDepth 100000
set_option maxHeartbeats 4000000
namespace Lw
open PySem Dv
abbrev D := Dv.P
theorem r0 (k : Nat) (as : List D) (b : Bx) : φ (k + 1) 0 as b = Dv.run (φ k) setOfF as b := rfl
theorem r1 (k : Nat) (as : List D) (b : Bx) : φ (k + 1) 1 as b = Dv.run (φ k) (potsF 0) as b := rfl
theorem r2 (k : Nat) (as : List D) (b : Bx) : φ (k + 1) 2 as b = Dv.run (φ k) (peopleF 0) as b := rfl
theorem r3 (k : Nat) (as : List D) (b : Bx) : φ (k + 1) 3 as b = Dv.run (φ k) (netsF 2) as b := rfl
theorem r4 (k : Nat) (as : List D) (b : Bx) : φ (k + 1) 4 as b = Dv.run (φ k) f4 as b := rfl
theorem r5 (k : Nat) (as : List D) (b : Bx) : φ (k + 1) 5 as b = Dv.run (φ k) f5 as b := rfl
theorem r6 (k : Nat) (as : List D) (b : Bx) : φ (k + 1) 6 as b = Dv.run (φ k) (boxF 1054307) as b := rfl
theorem r7 (k : Nat) (as : List D) (b : Bx) : φ (k + 1) 7 as b = Dv.run (φ k) takeF as b := rfl
theorem r8 (k : Nat) (as : List D) (b : Bx) : φ (k + 1) 8 as b = Dv.run (φ k) (ofF 7) as b := rfl
theorem r11 (k : Nat) (as : List D) (b : Bx) : φ (k + 1) 11 as b = Dv.run (φ k) (debtsF 7 8) as b := rfl
theorem r12 (k : Nat) (as : List D) (b : Bx) : φ (k + 1) 12 as b = Dv.run (φ k) (sumsF 8) as b := rfl
theorem r13 (k : Nat) (as : List D) (b : Bx) : φ (k + 1) 13 as b = Dv.run (φ k) (bookF 7) as b := rfl
theorem r14 (k : Nat) (as : List D) (b : Bx) : φ (k + 1) 14 as b = Dv.run (φ k) lotsF as b := rfl
theorem r15 (k : Nat) (as : List D) (b : Bx) : φ (k + 1) 15 as b = Dv.run (φ k) folkF as b := rfl
theorem r16 (k : Nat) (as : List D) (b : Bx) : φ (k + 1) 16 as b = Dv.run (φ k) netF as b := rfl
theorem r17 (k : Nat) (as : List D) (b : Bx) : φ (k + 1) 17 as b = Dv.run (φ k) (netsLF 15 16) as b := rfl
theorem r18 (k : Nat) (as : List D) (b : Bx) : φ (k + 1) 18 as b = Dv.run (φ k) f18 as b := rfl
theorem r20 (k : Nat) (as : List D) (b : Bx) : φ (k + 1) 20 as b = Dv.run (φ k) f20 as b := rfl
theorem r21 (k : Nat) (as : List D) (b : Bx) : φ (k + 1) 21 as b = Dv.run (φ k) f21 as b := rfl
theorem same (k n : Nat) (d : D) (b : Bx) (h : gd n d = true) (hn : n ≤ 64) (hk : n < k) : φ k 9 [d, d] b = .ok (.bool true) b := same_ok (T := tblOf T.DL) (self := 9) rfl n k d b h hn hk
theorem lists (k n : Nat) (d : D) (b : Bx) (h : gd n d = true) (hk : n < k) : φ k 10 [d] b = .ok (toL n d) b := lists_ok (T := tblOf T.DL) (self := 10) rfl n k d b h hk
theorem takes (k : Nat) : TakeS (φ (k + 1)) 7 := .mk (r7 k)
theorem ofs (k : Nat) : OfS (φ (k + 2)) 8 := .mk (r8 (k + 1)) (r7 k)
theorem gd_dT {Ds : List (Str × Str)} (h : okN Ds) (hl : Ds.length ≤ 1000) : gd 2 (dT Ds) = true := by
  refine gd_tuple (by rw [List.length_map]; exact Nat.le_trans hl (by decide)) fun x hx => ?_
  obtain ⟨p, hp, rfl⟩ := List.mem_map.mp hx
  refine gd_tuple (by decide : 2 ≤ line) fun y hy => ?_
  have := h p hp
  simp at hy
  rcases hy with rfl | rfl
  · exact this.1
  · exact this.2
theorem toL_dT (Ds : List (Str × Str)) : toL 2 (dT Ds) = dL Ds := by
  show PyData.list ((Ds.map _).map (toL 1)) = _
  rw [List.map_map]
  rfl
def rowsL (Ds : List (Str × Str)) (A : List Int) (l : List Nat) : List D := (folk Ds l).map fun p => .tuple [.str p, .int (netN Ds A l p)]
def rowsT (Ds : List (Str × Str)) (A : List Int) (j : Nat) (l : List Nat) : List D := ((folk Ds l).filter fun p => !decide (netN Ds A l p = 0)).map fun p => .tuple [nI j, .str p, .int (netN Ds A l p)]
def tabI (Ds : List (Str × Str)) (A : List Int) : Nat → List (List Nat) → List D
  | _, [] => []
  | i, l :: ls => rowsT Ds A i l ++ tabI Ds A (i + 1) ls
theorem tabI_app (Ds : List (Str × Str)) (A : List Int) (l : List Nat) : ∀ (ls : List (List Nat)) (i : Nat), tabI Ds A i (ls ++ [l]) = tabI Ds A i ls ++ rowsT Ds A (i + ls.length) l
  | [], i => by simp [tabI]
  | x :: ls, i => by
    rw [List.cons_append, tabI, tabI, tabI_app Ds A l ls (i + 1), List.append_assoc, List.length_cons]
    congr 3
    omega
theorem rowsT_len (Ds : List (Str × Str)) (A : List Int) (j : Nat) (l : List Nat) (h : l.length ≤ 1000) : (rowsT Ds A j l).length ≤ 2000 := by
  unfold rowsT
  rw [List.length_map]
  exact Nat.le_trans (List.length_filter_le _ _) (Nat.le_trans (folk_len Ds l) (by omega))
theorem tabI_len (Ds : List (Str × Str)) (A : List Int) : ∀ (ls : List (List Nat)) (i : Nat), (∀ l ∈ ls, l.length ≤ 1000) → (tabI Ds A i ls).length ≤ ls.length * 2000
  | [], i, _ => by simp [tabI]
  | x :: ls, i, h => by
    rw [tabI, List.length_append, List.length_cons]
    have h1 := rowsT_len Ds A i x (h x List.mem_cons_self)
    have h2 := tabI_len Ds A ls (i + 1) fun l hl => h l (List.mem_cons_of_mem _ hl)
    omega
theorem wp_ext {φ : Phi} {e : Dv.Env} {b : Bx} {N : Dv.Env → Bx → Prop} {T : D → Bx → Prop} {c : IE} {i : Nat} {xs : List D} (h0 : getO e i = some (.list xs)) (h : We (ev φ c e b) fun d b1 => ∃ ys, d = .list ys ∧ xs.length + ys.length ≤ line ∧ N (e.set i (.o (.list (xs ++ ys)))) b1) : Wp (ex φ (.ext i c) e b) N T := by
  show Wp (match getO e i with
    | some (.list xs) => (ev φ c e b).out e fun d b1 => match d with
      | .list ys => if xs.length + ys.length ≤ line then Out.nx (e.set i (.o (.list (xs ++ ys)))) b1 else .no
      | _ => .no
    | _ => .no) N T
  rw [h0]
  exact out_we (h.imp fun d b1 ⟨ys, h1, h2, h3⟩ => by
    subst h1
    show Wp (if xs.length + ys.length ≤ line then _ else _) N T
    rw [if_pos h2]
    exact h3)
section
variable {d a bd : D} {Ds : List (Str × Str)} {A B : List Int}
theorem po_ok (k : Nat) (b : Bx) (hb : BookR bd B) : φ (k + 2) 1 [bd] b = .ok (.list ((lots (nums B).length B).map tupN)) b := by
  have hm : (nums B).length ≤ 1000 := Nat.le_trans (nums_len B) hb.len
  rw [r1]
  exact pots_ok (r0 k) hb.seq (Nat.le_trans hb.len (by decide)) (Nat.le_trans hm (by decide)) hb.full
theorem pn_ok (k j : Nat) (l : List Nat) (b : Bx) (hd : DebtsR d Ds) (ha : SeqR a (A.map .int)) (hb : BookR bd B) (h1 : Ds.length = B.length) (h2 : A.length = B.length) (hj : (lots (nums B).length B)[j]? = some l) : φ (k + 4) 4 [d, bd, nI j, a] b = .ok (.tuple (rowsL Ds A l)) b := by
  rw [r4]
  have hl2 : l ∈ lots (nums B).length B := List.mem_of_getElem? hj
  obtain ⟨l1, l2⟩ := lots_mem hl2
  have hl3 : l.length ≤ 1000 := Nat.le_trans l1 hb.len
  have hjl : j < (lots (nums B).length B).length := (List.getElem?_eq_some_iff.mp hj).1
  have c1 := po_ok (k + 1) b0 hb
  have e1 : φ (k + 3) 3 [d, a, tupN l] b0 = .ok (lockOf (folk Ds l) (netN Ds A l)) b0 := nets_ok (φ := φ (k + 2)) (pd := tupN l) (ks := l) (r2 (k + 1)) (r0 k) hd ha rfl (fun k hk => by rw [h1]; exact l2 k hk) (fun k hk => by rw [h2]; exact l2 k hk) hl3
  have ei : idxD (.list ((lots (nums B).length B).map tupN)) (.int (j : Int)) = some (tupN l) := L2.atI_nat (by rw [List.getElem?_map, hj]; rfl)
  have e3 := folk_lock (D := Ds) (ks := l) (f := netN Ds A l) hl3
  have hlen : lenD (.list ((lots (nums B).length B).map tupN)) = some ((lots (nums B).length B).length : Int) := by simp
  have q1 : (0 : Int) ≤ (j : Int) := by omega
  have q2 : (j : Int) < ((lots (nums B).length B).length : Int) := by omega
  have hfl : (folk Ds l).length ≤ line := Nat.le_trans (folk_len Ds l) (Nat.le_trans (by omega : 2 * l.length ≤ 2000) (by decide))
  refine run_rt rfl (seq_nx (e1 := [.v d, .v bd, .v (nI j), .v a, .v (.list ((lots (nums B).length B).map tupN)), .no, .no]) (b1 := b) (by simp [f4, ex, ev, startE, getV, c1]) (seq_nx (e1 := [.v d, .v bd, .v (nI j), .v a, .v (.list ((lots (nums B).length B).map tupN)), .no, .no]) (b1 := b) (iff_f (d := .bool false) (b1 := b) ?_ rfl rfl) (seq_nx (e1 := [.v d, .v bd, .v (nI j), .v a, .v (.list ((lots (nums B).length B).map tupN)), .v (lockOf (folk Ds l) (netN Ds A l)), .no]) (b1 := b) ?_ (seq_rt (ret_of ?_)))))
  · simp [ev, getV, nI, q1, q2] at q1 q2 ⊢
  · simp [ex, ev, getV, nI, ei, e1, asgn, Out.ofO]
  · have e4 : ev (φ (k + 3)) (.lc [6] (.tup (.cons (.var 6) (.cons (.idx (.var 5) (.var 6)) (.nil)))) (.nm 6) (.bi .sorted (.cons (.var 5) (.nil))) (.cst (.bool true))) [.v d, .v bd, .v (nI j), .v a, .v (.list ((lots (nums B).length B).map tupN)), .v (lockOf (folk Ds l) (netN Ds A l)), .no] b = .ok (.list (rowsL Ds A l)) b := by
      refine lc_map_map (d := .list ((folk Ds l).map .str)) (f := .str) ?_ rfl hfl fun p hp => ⟨_, rfl, rfl, ?_⟩
      · simp [ev_bi, ev_cons, ev_nil, ev_var, getV, e3]
      · have := idx_lock (f := netN Ds A l) hp
        simp [wipe, ev_tup, ev_cons, ev_nil, ev_idx, ev_var, getV, this, line]
    simp only [ev_bi, ev_cons, ev_nil, e4, bind_ok, argsOf_list, tuple_l, ofO_some]
theorem pn_no (k : Nat) (b : Bx) (hb : BookR bd B) : φ (k + 3) 4 [d, bd, nI (lots (nums B).length B).length, a] b = .ex 0 (some (nI (lots (nums B).length B).length)) b := by
  rw [r4]
  have c1 := po_ok k b0 hb
  refine run_xx (e := [.v d, .v bd, .v (nI (lots (nums B).length B).length), .v a, .v (.list ((lots (nums B).length B).map tupN)), .no, .no]) rfl ?_
  simp [f4, y4, ex, ev, startE, getV, c1, nI]
theorem heard_ok (k j : Nat) (l : List Nat) (b : Bx) (hd : DebtsR d Ds) (ha : SeqR a (A.map .int)) (hb : BookR bd B) (h1 : Ds.length = B.length) (h2 : A.length = B.length) (hj : (lots (nums B).length B)[j]? = some l) : φ (k + 5) 18 [d, bd, nI j, a] b = .ok (.tuple (rowsL Ds A l)) b := by
  rw [r18]
  have c1 := pn_ok k j l b0 hd ha hb h1 h2 hj
  refine run_rt rfl (seq_nx (e1 := [.v d, .v bd, .v (nI j), .v a, .v .none, .v .none, .no]) (b1 := b) (by simp [f18, ex, ev, startE, asgn, Out.ofO, line]) (seq_nx (e1 := [.v d, .v bd, .v (nI j), .v a, .v .none, .v (.tuple (rowsL Ds A l)), .no]) (b1 := b) (tryx_nx ?_) (seq_rt (ret_of (by simp [ev, getV, isNo])))))
  simp [ex, ev, getV, c1]
theorem heard_no (k : Nat) (b : Bx) (hb : BookR bd B) : φ (k + 4) 18 [d, bd, nI (lots (nums B).length B).length, a] b = .ok (.list [.str "none", nI (lots (nums B).length B).length, .bool true]) b := by
  rw [r18]
  have c1 := pn_no (d := d) (a := a) k b0 hb
  refine run_rt rfl (seq_nx (e1 := [.v d, .v bd, .v (nI (lots (nums B).length B).length), .v a, .v .none, .v .none, .no]) (b1 := b) (by simp [f18, ex, ev, startE, asgn, Out.ofO, line]) (seq_nx (e1 := [.v d, .v bd, .v (nI (lots (nums B).length B).length), .v a, .v (.list [.str "none", nI (lots (nums B).length B).length, .bool true]), .v .none, .no]) (b1 := b) (tryx_xx (e1 := [.v d, .v bd, .v (nI (lots (nums B).length B).length), .v a, .v .none, .v .none, .no]) ?_) (seq_rt (ret_of (by simp [ev, getV, isNo])))))
  simp [ex, ev, getV, c1]
theorem tab_ok (k : Nat) (b : Bx) (hd : DebtsR d Ds) (ha : SeqR a (A.map .int)) (hb : BookR bd B) (h1 : Ds.length = B.length) (h2 : A.length = B.length) : φ (k + 5) 5 [d, bd, a] b = .ok (.list (tabI Ds A 0 (lots (nums B).length B))) b := by
  rw [r5]
  have hm : (nums B).length ≤ 1000 := Nat.le_trans (nums_len B) hb.len
  have c1 := po_ok (k + 2) b0 hb
  have hL : ∀ l ∈ lots (nums B).length B, l.length ≤ 1000 := fun l hl => Nat.le_trans (lots_mem hl).1 hb.len
  have hLl : (lots (nums B).length B).length ≤ 1000 := by rw [lots_len]; exact hm
  refine We.eq (we_run rfl ?_)
  refine wp_seq (wp_set (.of_eq (a := .list []) (b := b) rfl ?_))
  refine wp_seq (wp_for (fun rest e b' => b' = b ∧ ∃ don todo e4, lots (nums B).length B = don ++ todo ∧ rest = rngUp don.length todo.length ∧ e = [.v d, .v bd, .v a, .o (.list (tabI Ds A 0 don)), e4, .no, .no]) (.of_eq (a := .list (rngUp 0 (lots (nums B).length B).length)) (b := b) ?_ ⟨_, rfl, rfl, [], _, _, rfl, rfl, rfl⟩) ?_ ?_)
  · have e2 := rng_n hLl
    show ev _ _ [.v d, .v bd, .v a, .o (.list []), .no, .no, .no] b = _
    simp [ev, getV, c1, e2]
  · rintro x xs e b' ⟨rfl, don, todo, e4, q1, q2, rfl⟩
    cases todo with
    | nil => cases q2
    | cons l todo =>
      have hj : (lots (nums B).length B)[don.length]? = some l := by rw [q1]; simp
      have hl := hL l (by rw [q1]; simp)
      have q2 : x :: xs = .int (don.length : Int) :: rngUp ((don.length : Int) + 1) todo.length := q2
      obtain ⟨rfl, rfl⟩ := List.cons.inj q2
      have c2 := pn_ok (k + 0) don.length l b0 hd ha hb h1 h2 hj
      refine ⟨_, rfl, wp_seq (wp_ext rfl (.of_eq (a := .list (rowsT Ds A don.length l)) (b := b') ?_ ⟨_, rfl, ?_, wp_nop ⟨rfl, don ++ [l], todo, .v (nI don.length), by rw [q1]; simp, ?_, ?_⟩⟩))⟩
      · show ev (φ (k + 4)) _ [.v d, .v bd, .v a, .o (.list (tabI Ds A 0 don)), .v (nI don.length), .no, .no] b' = _
        refine lc_filter_map (d := .tuple (rowsL Ds A l)) (f := fun p => .tuple [.str p, .int (netN Ds A l p)]) (p := fun p => !decide (netN Ds A l p = 0)) ?_ rfl (Nat.le_trans (folk_len Ds l) (Nat.le_trans (by omega : 2 * l.length ≤ 2000) (by decide))) fun p hp => ⟨_, rfl, ?_, fun _ => ?_⟩
        · simp [ev_call, ev_cons, ev_nil, ev_var, getV, c2]
        · simp [wipe, ev_cmp, ev_var, ev_cst, getV]
        · simp [wipe, ev_tup, ev_cons, ev_nil, ev_var, getV, line]
      · have a1 := tabI_len Ds A don 0 fun l hl => hL l (by rw [q1]; simp [hl])
        have a2 := rowsT_len Ds A don.length l hl
        have a3 : don.length ≤ 1000 := by
          have := congrArg List.length q1
          rw [List.length_append, List.length_cons] at this
          omega
        exact Nat.le_trans (by omega : _ ≤ 2002000) (by decide)
      · rw [List.length_append, List.length_singleton]
        rfl
      · rw [tabI_app, Nat.zero_add]
        rfl
  · rintro e b' ⟨rfl, don, todo, e4, q1, q2, rfl⟩
    cases todo with
    | cons k todo => cases q2
    | nil =>
      rw [List.append_nil] at q1
      refine wp_seq (wp_ret (.of_eq (a := .list (tabI Ds A 0 don)) (b := b') rfl ⟨by rw [q1], rfl⟩))
end
theorem caseR (m : Nat) (b : Bx) (hb : Bl (m + 34) b) : We (φ 20 20 [] b) fun d b' => d = .bool true ∧ Bl m b' := by
  rw [r20]
  refine we_run rfl ?_
  show Wp (ex (φ 19) y20 [.no, .no, .no, .no, .no, .no, .no, .no, .no, .no, .no] b) _ _
  obtain ⟨d, b1, e1, Ds, rfl, h1, h2, _, h3⟩ := (debts_ok (φ := φ 18) (b := b) (m := m + 16) (n := 8) (takes 17) (ofs 16) (by decide) hb).get
  refine wp_seq (wp_set (.of_eq (a := dT Ds) (b := b1) ?_ ?_))
  · have e1 : φ 19 11 [.int 8] b = .ok (dT Ds) b1 := e1
    simp [ev_callB, ev_cons, ev_nil, ev_cst, e1]
  have hDl : Ds.length ≤ 1000 := by omega
  obtain ⟨a, b2, e2, A, rfl, h4, _, h5⟩ := (sums_ok (φ := φ 18) (d := dT Ds) (b := b1) (m := m + 8) (ofs 16) rfl (by rw [List.length_map]; exact hDl) (h3.le (by rw [List.length_map]; omega))).get
  rw [List.length_map] at h4
  obtain ⟨bd, b3, e3, B, rfl, h6, ⟨c, h7⟩, h8⟩ := (book_ok (φ := φ 18) (b := b2) (m := m) (n := Ds.length) (takes 17) hDl (h5.le (by omega))).get
  refine wp_seq (wp_par3 (.of_eq (a := .tuple (A.map .int)) (b := b2) ?_ (.of_eq (a := .tuple (B.map .int)) (b := b3) ?_ (.of_eq (a := .list []) (b := b3) rfl ?_))))
  · have e2 : φ 19 12 [dT Ds] b1 = .ok (.tuple (A.map .int)) b2 := e2
    simp [ev_callB, ev_cons, ev_nil, ev_var, getV, e2]
  · have e3 : φ 19 13 [.int (Ds.length : Int)] b2 = .ok (.tuple (B.map .int)) b3 := e3
    have : lenD (dT Ds) = some (Ds.length : Int) := by simp [dT]
    simp [ev_callB, ev_cons, ev_nil, ev_var, ev_bi, getV, this, e3]
  have hBl : B.length ≤ 1000 := by omega
  have hB := full_book h7 (d := .tuple (B.map .int)) (.inr rfl) hBl
  have hB' := full_book h7 (d := .list (B.map .int)) (.inl rfl) hBl
  have hAl : A.length = B.length := by omega
  have hm : (nums B).length ≤ 1000 := Nat.le_trans (nums_len B) hBl
  have hL : ∀ l ∈ lots (nums B).length B, l.length ≤ 1000 := fun l hl => Nat.le_trans (lots_mem hl).1 hBl
  have hLl : (lots (nums B).length B).length ≤ 1000 := by rw [lots_len]; exact hm
  have eL : φ 19 14 [.tuple (B.map .int)] b0 = .ok (.list ((lots (nums B).length B).map listN)) b0 := lots_ok (φ := φ 18) (.inr rfl) hBl
  show Wp (ex (φ 19) _ [.no, .v (dT Ds), .v (.tuple (A.map .int)), .v (.tuple (B.map .int)), .v (.list []), .no, .no, .no, .no, .no, .no] b3) _ _
  refine wp_seq (wp_for (fun rest e b' => b' = b3 ∧ ∃ don todo e5 e6 e9, lots (nums B).length B = don ++ todo ∧ rest = enumFrom (don.length : Int) (todo.map listN) ∧ e = [.no, .v (dT Ds), .v (.tuple (A.map .int)), .v (.tuple (B.map .int)), .v (.list (tabI Ds A 0 don)), e5, e6, .no, .no, e9, .no]) (.of_eq (a := .list (enumFrom 0 ((lots (nums B).length B).map listN))) (b := b3) ?_ ⟨_, rfl, rfl, [], _, _, _, _, rfl, rfl, rfl⟩) ?_ ?_)
  · simp [ev_enm, ev_call, ev_cons, ev_nil, ev_var, getV, eL, enumV]
  · rintro x xs e b' ⟨rfl, don, todo, e5, e6, e9, q1, q2, rfl⟩
    cases todo with
    | nil => cases q2
    | cons l todo =>
      have q2 : x :: xs = .tuple [.int (don.length : Int), listN l] :: enumFrom ((don.length : Int) + 1) (todo.map listN) := q2
      obtain ⟨rfl, rfl⟩ := List.cons.inj q2
      have hj : (lots (nums B).length B)[don.length]? = some l := by rw [q1]; simp
      have hlm : l ∈ lots (nums B).length B := by rw [q1]; simp
      obtain ⟨l1, l2⟩ := lots_mem hlm
      have hl := hL l hlm
      have hfl : (folk Ds l).length ≤ line := Nat.le_trans (folk_len Ds l) (Nat.le_trans (by omega : 2 * l.length ≤ 2000) (by decide))
      have hk1 : ∀ k ∈ l, k < Ds.length := fun k hk => by have := l2 k hk; omega
      have eN : φ 19 17 [dT Ds, .tuple (A.map .int), listN l] b0 = .ok (.list (rowsL Ds A l)) b0 := netsL_ok (φ := φ 18) (ks := l) (r15 17) (r16 17) (dT_r Ds) (.inr rfl) rfl hk1 (fun k hk => by have := l2 k hk; omega) hl h2
      refine ⟨_, rfl, ?_⟩
      show Wp (ex (φ 19) _ [.no, .v (dT Ds), .v (.tuple (A.map .int)), .v (.tuple (B.map .int)), .v (.list (tabI Ds A 0 don)), .v (nI don.length), .v (listN l), .no, .no, e9, .no] b') _ _
      have gt : biD .tuple_ [.list (rowsL Ds A l)] = some (.tuple (rowsL Ds A l)) := rfl
      refine wp_seq (wp_set (.of_eq (a := .tuple (rowsL Ds A l)) (b := b') ?_ ?_))
      · simp [ev_bi, ev_call, ev_cons, ev_nil, ev_var, getV, eN, gt]
      show Wp (ex (φ 19) _ [.no, .v (dT Ds), .v (.tuple (A.map .int)), .v (.tuple (B.map .int)), .v (.list (tabI Ds A 0 don)), .v (nI don.length), .v (listN l), .no, .no, .v (.tuple (rowsL Ds A l)), .no] b') _ _
      have ch := heard_ok 14 don.length l b0 (dT_r Ds) (a := .tuple (A.map .int)) (.inr rfl) hB h6.symm hAl hj
      have gr : gd 2 (.tuple (rowsL Ds A l)) = true := gd_tuple (by unfold rowsL; rw [List.length_map]; exact hfl) fun x hx => by
        obtain ⟨p, hp, rfl⟩ := List.mem_map.mp hx
        refine gd_tuple (by decide : 2 ≤ line) fun y hy => ?_
        simp at hy
        rcases hy with rfl | rfl
        · exact folk_strOk h2 hk1 hp
        · rfl
      have cs := same 19 2 _ b0 gr (by decide) (by decide)
      refine wp_seq (wp_if (.of_eq (a := .bool false) (b := b') ?_ (.inr ⟨rfl, wp_nop ?_⟩)))
      · simp [ev_not, ev_call, ev_cons, ev_nil, ev_var, getV, ch, cs]
      have eT : ev (φ 19) (.lc [10] (.tup (.cons (.var 5) (.cons (.idx (.var 10) (.cst (.int 0))) (.cons (.idx (.var 10) (.cst (.int 1))) (.nil))))) (.nm 10) (.var 9) (.cmp .ne (.idx (.var 10) (.cst (.int 1))) (.cst (.int 0)))) [.no, .v (dT Ds), .v (.tuple (A.map .int)), .v (.tuple (B.map .int)), .v (.list (tabI Ds A 0 don)), .v (nI don.length), .v (listN l), .no, .no, .v (.tuple (rowsL Ds A l)), .no] b' = .ok (.list (rowsT Ds A don.length l)) b' := by
        refine lc_filter_map (d := .tuple (rowsL Ds A l)) (f := fun p => .tuple [.str p, .int (netN Ds A l p)]) (p := fun p => !decide (netN Ds A l p = 0)) rfl rfl hfl fun p hp => ⟨_, rfl, ?_, fun _ => ?_⟩
        · simp [wipe, ev_cmp, ev_idx, ev_var, ev_cst, getV]
        · simp [wipe, ev_tup, ev_cons, ev_nil, ev_idx, ev_var, ev_cst, getV, line]
      have hadd : binD .add (.list (tabI Ds A 0 don)) (.list (rowsT Ds A don.length l)) = some (.list (tabI Ds A 0 (don ++ [l]))) := by
        rw [add_l, tabI_app, Nat.zero_add]
        have a1 := tabI_len Ds A don 0 fun l hl => hL l (by rw [q1]; simp [hl])
        have a2 := rowsT_len Ds A don.length l hl
        have a3 : don.length ≤ 1000 := by
          have := congrArg List.length q1
          rw [List.length_append, List.length_cons] at this
          omega
        exact Nat.le_trans (by omega : _ ≤ 2002000) (by decide)
      refine wp_seq (wp_set (.of_eq (a := .list (tabI Ds A 0 (don ++ [l]))) (b := b') ?_ (wp_nop ⟨rfl, don ++ [l], todo, .v (nI don.length), .v (listN l), .v (.tuple (rowsL Ds A l)), by rw [q1]; simp, ?_, rfl⟩)))
      · simp only [ev_bin, eT, ev_var, getV, List.getElem?_cons_zero, List.getElem?_cons_succ, ofO_some, bind_ok, hadd]
      · rw [List.length_append, List.length_singleton]
        rfl
  · rintro e b' ⟨rfl, don, todo, e5, e6, e9, q1, q2, rfl⟩
    cases todo with
    | cons k todo => cases q2
    | nil =>
      rw [List.append_nil] at q1
      rw [← q1]
      have hlen : lenD (.list ((lots (nums B).length B).map listN)) = some ((lots (nums B).length B).length : Int) := by simp
      refine wp_seq (wp_set (.of_eq (a := nI (lots (nums B).length B).length) (b := b') ?_ ?_))
      · simp [ev_bi, ev_call, ev_cons, ev_nil, ev_var, getV, eL, nI]
      show Wp (ex (φ 19) _ [.no, .v (dT Ds), .v (.tuple (A.map .int)), .v (.tuple (B.map .int)), .v (.list (tabI Ds A 0 (lots (nums B).length B))), e5, e6, .v (nI (lots (nums B).length B).length), .no, e9, .no] b') _ _
      have cn := heard_no (d := dT Ds) (a := .tuple (A.map .int)) 15 b0 hB
      have cs1 := same 19 1 (.list [.str "none", nI (lots (nums B).length B).length, .bool true]) b0 (by
        refine gd_list (by decide : 3 ≤ line) fun x hx => ?_
        simp only [List.mem_cons, List.not_mem_nil, or_false] at hx
        rcases hx with rfl | rfl | rfl
        · decide +kernel
        · rfl
        · rfl) (by decide) (by decide)
      refine wp_seq (wp_if (.of_eq (a := .bool false) (b := b') ?_ (.inr ⟨rfl, wp_nop ?_⟩)))
      · simp [ev_not, ev_lst, ev_call, ev_cons, ev_nil, ev_var, ev_cst, getV, cn, cs1, line]
      have c5 := tab_ok 14 b0 (dT_r Ds) (a := .tuple (A.map .int)) (.inr rfl) hB h6.symm hAl
      have c6 := tab_ok 14 b0 (dL_r Ds) (a := .tuple (A.map .int)) (.inr rfl) hB' h6.symm hAl
      have c9 := lists 19 2 (dT Ds) b0 (gd_dT h2 hDl) (by decide)
      rw [toL_dT] at c9
      have g1 : biD .list_ [.tuple (B.map .int)] = some (.list (B.map .int)) := rfl
      refine wp_seq (wp_set (.of_eq (a := .list [.list (tabI Ds A 0 (lots (nums B).length B)), .list (tabI Ds A 0 (lots (nums B).length B))]) (b := b') ?_ ?_))
      · simp [ev_lst, ev_bi, ev_call, ev_cons, ev_nil, ev_var, getV, c5, c6, c9, g1, line]
      have gT : ∀ (ls : List (List Nat)) (i : Nat), (∀ l ∈ ls, ∀ k ∈ l, k < Ds.length) → ∀ x ∈ tabI Ds A i ls, gd 1 x = true := by
        intro ls
        induction ls with
        | nil => intro i _ x hx; cases hx
        | cons l ls ih =>
          intro i hk x hx
          rcases List.mem_append.mp hx with hx | hx
          · obtain ⟨p, hp, rfl⟩ := List.mem_map.mp hx
            have hp := (List.mem_filter.mp hp).1
            refine gd_tuple (by decide : 3 ≤ line) fun y hy => ?_
            simp only [List.mem_cons, List.not_mem_nil, or_false] at hy
            rcases hy with rfl | rfl | rfl
            · rfl
            · exact folk_strOk h2 (hk l List.mem_cons_self) hp
            · rfl
          · exact ih (i + 1) (fun l hl => hk l (List.mem_cons_of_mem _ hl)) x hx
      have gt2 : gd 2 (.list (tabI Ds A 0 (lots (nums B).length B))) = true := gd_list (Nat.le_trans (tabI_len Ds A _ 0 hL) (Nat.le_trans (by omega : _ ≤ 2000000) (by decide))) (gT _ 0 fun l hl k hk => by have := (lots_mem hl).2 k hk; omega)
      have cs2 := same 19 3 (.list [.list (tabI Ds A 0 (lots (nums B).length B)), .list (tabI Ds A 0 (lots (nums B).length B))]) b0 (gd_list (by decide : 2 ≤ line) fun x hx => by
        simp at hx
        rw [hx]
        exact gt2) (by decide) (by decide)
      refine wp_seq (wp_ret (.of_eq (a := .bool true) (b := b') ?_ ⟨rfl, h8⟩))
      simp [ev_lst, ev_call, ev_cons, ev_nil, ev_var, getV, cs2, line]
theorem rightR (b : Bx) (hb : Bl 300 b) : ∃ b', φ 21 21 [] b = .ok (.bool true) b' := by
  rw [r21]
  have h : We (ev (φ 20) (.lc [1] (.callB 20 (.nil)) (.nm 1) (.rng (.cons (.cst (.int 6)) (.nil))) (.cst (.bool true))) [.no, .no] b) fun d b' => d = .list (List.replicate 6 (.bool true)) := by
    refine we_lc (fun rest acc b' => acc = List.replicate acc.length (.bool true) ∧ acc.length + rest.length = 6 ∧ Bl (rest.length * 34) b') (.of_eq (a := .list (rngUp 0 6)) (b := b) rfl ⟨_, rfl, by decide, rfl, rfl, hb.le (by decide)⟩) ?_ ?_
    · rintro x xs acc b' ⟨h1, h2, h3⟩
      rw [List.length_cons] at h2 h3
      refine ⟨_, rfl, .of_eq rfl (.inl ⟨rfl, ?_⟩)⟩
      refine (caseR (xs.length * 34) b' (h3.le (by omega))).imp fun d b2 ⟨q1, q2⟩ => ⟨?_, ?_, q2⟩
      · rw [q1, List.length_append, List.length_singleton, List.replicate_succ', ← h1]
      · rw [List.length_append, List.length_singleton]; omega
    · rintro acc b' ⟨h1, h2, h3⟩
      have h2 : acc.length = 6 := by simpa using h2
      rw [h1, h2]
  obtain ⟨d, b', h1, rfl⟩ := h.get
  refine ⟨b', run_rt rfl (seq_rt (ret_of ?_))⟩
  show R.bind (R.bind (ev (φ 20) (.lc _ _ _ _ _) [.no, .no] b) _) _ = _
  rw [h1]
  simp only [bind_ok, ev_nil, argsOf_list, all_true, ofO_some]
theorem hand_true : ∃ bh, φ 21 lw.hand [] b0 = .ok (.bool true) bh := okTrue_of (by decide +kernel)
theorem draws_true : ∀ xs : List Int, 0 < xs.length → xs.length ≤ 3 → ∃ b, ex (φ 21) (lawRet lw.right lw.box) [.no, .v (.list (xs.map PyData.int)), .no] b0 = .rt (.bool true) b := fun xs _ hl =>
  ret_ok (φ' := φ 20) (seed := 1054307) (r6 20) (fun p q => rightR (p, q, 0) ⟨Int.le_refl 0, by show (0 : Int) + 300 ≤ 1152921504606846976; decide⟩) hl
end Lw
/-! text E_k07 -/
set_option Elab.async false
set_option linter.all false
set_option maxRecDepth 100000
set_option maxHeartbeats 4000000
namespace Lw
open PySem PySem.Spec L2 Dv
theorem binds_pot : BindsErr "pot" := by
  intro s fd x v p1 p2 h1 h2 h3
  obtain ⟨a1, a2, a3, a4, a5, a6, a7, a8, a9, a10, a11, a12, a13, a14, a15⟩ := fd
  dsimp only at h1 h2 h3
  subst h1 h2 h3
  exact .of_eq (by first | rfl | with_unfolding_all rfl)
theorem all_mk {l : PySem.W.OpenLaw} {w : World} {K : PySem.W.Frag} {h : Heap} {mg : Str → Option Value} {fa : Addr} (X : K.In h) (G : h.Ns mainGlobals mg) (hfa : mg "law" = some (.ref fa))
    {e0 : Addr} {od0 an0 : Option Addr} {sl0 : Array (Option Value)} {oc0 kV0 dc0 pm0 cd0 ct0 : Value}
    {e1 : Addr} {od1 an1 : Option Addr} {sl1 : Array (Option Value)} {oc1 kV1 dc1 pm1 cd1 ct1 : Value}
    {e2 : Addr} {od2 an2 : Option Addr} {sl2 : Array (Option Value)} {oc2 kV2 dc2 pm2 cd2 ct2 : Value}
    {e3 : Addr} {od3 an3 : Option Addr} {sl3 : Array (Option Value)} {oc3 kV3 dc3 pm3 cd3 ct3 : Value}
    {e4 : Addr} {od4 an4 : Option Addr} {sl4 : Array (Option Value)} {oc4 kV4 dc4 pm4 cd4 ct4 : Value}
    {e5 : Addr} {od5 an5 : Option Addr} {sl5 : Array (Option Value)} {oc5 kV5 dc5 pm5 cd5 ct5 : Value}
    {e6 : Addr} {od6 an6 : Option Addr} {sl6 : Array (Option Value)} {oc6 kV6 dc6 pm6 cd6 ct6 : Value}
    {e7 : Addr} {od7 an7 : Option Addr} {sl7 : Array (Option Value)} {oc7 kV7 dc7 pm7 cd7 ct7 : Value}
    {e8 : Addr} {od8 an8 : Option Addr} {sl8 : Array (Option Value)} {oc8 kV8 dc8 pm8 cd8 ct8 : Value}
    {e9 : Addr} {od9 an9 : Option Addr} {sl9 : Array (Option Value)} {oc9 kV9 dc9 pm9 cd9 ct9 : Value}
    {e10 : Addr} {od10 an10 : Option Addr} {sl10 : Array (Option Value)} {oc10 kV10 dc10 pm10 cd10 ct10 : Value}
    {e11 : Addr} {od11 an11 : Option Addr} {sl11 : Array (Option Value)} {oc11 kV11 dc11 pm11 cd11 ct11 : Value}
    {e12 : Addr} {od12 an12 : Option Addr} {sl12 : Array (Option Value)} {oc12 kV12 dc12 pm12 cd12 ct12 : Value}
    {e13 : Addr} {od13 an13 : Option Addr} {sl13 : Array (Option Value)} {oc13 kV13 dc13 pm13 cd13 ct13 : Value}
    {e14 : Addr} {od14 an14 : Option Addr} {sl14 : Array (Option Value)} {oc14 kV14 dc14 pm14 cd14 ct14 : Value}
    {e15 : Addr} {od15 an15 : Option Addr} {sl15 : Array (Option Value)} {oc15 kV15 dc15 pm15 cd15 ct15 : Value}
    {e16 : Addr} {od16 an16 : Option Addr} {sl16 : Array (Option Value)} {oc16 kV16 dc16 pm16 cd16 ct16 : Value}
    {e17 : Addr} {od17 an17 : Option Addr} {sl17 : Array (Option Value)} {oc17 kV17 dc17 pm17 cd17 ct17 : Value}
    {e18 : Addr} {od18 an18 : Option Addr} {sl18 : Array (Option Value)} {oc18 kV18 dc18 pm18 cd18 ct18 : Value}
    {e19 : Addr} {od19 an19 : Option Addr} {sl19 : Array (Option Value)} {oc19 kV19 dc19 pm19 cd19 ct19 : Value}
    {e20 : Addr} {od20 an20 : Option Addr} {sl20 : Array (Option Value)} {oc20 kV20 dc20 pm20 cd20 ct20 : Value}
    {e21 : Addr} {od21 an21 : Option Addr} {sl21 : Array (Option Value)} {oc21 kV21 dc21 pm21 cd21 ct21 : Value}
    {ec : Addr} {odc anc : Option Addr} {slc : Array (Option Value)} {occ kVc dcc pmc cdc ctc : Value}
    {el : Addr} {odl anl : Option Addr} {sll : Array (Option Value)} {ocl kVl dcl pml cdl ctl : Value}
    (a0 : PySem.W.nsIn K mainGlobals "set_of" = some (some (.ref e0))) (l0 : K.lookup e0 = some ⟨oc0, od0, .func (PySem.W.fnOf "set_of" "set_of" (defArgs s0) (defBody s0) (defScope s0) .none kV0 dc0 pm0 an0 cd0 ct0), sl0⟩) (c0 : PySem.W.codeIn K cd0 "set_of" = true) (k0 : PySem.W.keepIn K (.ref e0) = true)
    (a1 : PySem.W.nsIn K mainGlobals "pots_of" = some (some (.ref e1))) (l1 : K.lookup e1 = some ⟨oc1, od1, .func (PySem.W.fnOf "pots_of" "pots_of" (defArgs s1) (defBody s1) (defScope s1) .none kV1 dc1 pm1 an1 cd1 ct1), sl1⟩) (c1 : PySem.W.codeIn K cd1 "pots_of" = true) (k1 : PySem.W.keepIn K (.ref e1) = true)
    (a2 : PySem.W.nsIn K mainGlobals "people_of" = some (some (.ref e2))) (l2 : K.lookup e2 = some ⟨oc2, od2, .func (PySem.W.fnOf "people_of" "people_of" (defArgs s2) (defBody s2) (defScope s2) .none kV2 dc2 pm2 an2 cd2 ct2), sl2⟩) (c2 : PySem.W.codeIn K cd2 "people_of" = true) (k2 : PySem.W.keepIn K (.ref e2) = true)
    (a3 : PySem.W.nsIn K mainGlobals "nets_of" = some (some (.ref e3))) (l3 : K.lookup e3 = some ⟨oc3, od3, .func (PySem.W.fnOf "nets_of" "nets_of" (defArgs s3) (defBody s3) (defScope s3) .none kV3 dc3 pm3 an3 cd3 ct3), sl3⟩) (c3 : PySem.W.codeIn K cd3 "nets_of" = true) (k3 : PySem.W.keepIn K (.ref e3) = true)
    (a4 : PySem.W.nsIn K mainGlobals "pot_nets" = some (some (.ref e4))) (l4 : K.lookup e4 = some ⟨oc4, od4, .func (PySem.W.fnOf "pot_nets" "pot_nets" (defArgs s4) (defBody s4) (defScope s4) .none kV4 dc4 pm4 an4 cd4 ct4), sl4⟩) (c4 : PySem.W.codeIn K cd4 "pot_nets" = true) (k4 : PySem.W.keepIn K (.ref e4) = true)
    (a5 : PySem.W.nsIn K mainGlobals "table" = some (some (.ref e5))) (l5 : K.lookup e5 = some ⟨oc5, od5, .func (PySem.W.fnOf "table" "table" (defArgs s5) (defBody s5) (defScope s5) .none kV5 dc5 pm5 an5 cd5 ct5), sl5⟩) (c5 : PySem.W.codeIn K cd5 "table" = true) (k5 : PySem.W.keepIn K (.ref e5) = true)
    (a6 : PySem.W.nsIn K mainGlobals "_law_box" = some (some (.ref e6))) (l6 : K.lookup e6 = some ⟨oc6, od6, .func (PySem.W.fnOf "_law_box" "_law_box" (defArgs s6) (defBody s6) (defScope s6) .none kV6 dc6 pm6 an6 cd6 ct6), sl6⟩) (c6 : PySem.W.codeIn K cd6 "_law_box" = true) (k6 : PySem.W.keepIn K (.ref e6) = true)
    (a7 : PySem.W.nsIn K mainGlobals "_law_take" = some (some (.ref e7))) (l7 : K.lookup e7 = some ⟨oc7, od7, .func (PySem.W.fnOf "_law_take" "_law_take" (defArgs s7) (defBody s7) (defScope s7) .none kV7 dc7 pm7 an7 cd7 ct7), sl7⟩) (c7 : PySem.W.codeIn K cd7 "_law_take" = true) (k7 : PySem.W.keepIn K (.ref e7) = true)
    (a8 : PySem.W.nsIn K mainGlobals "_law_of" = some (some (.ref e8))) (l8 : K.lookup e8 = some ⟨oc8, od8, .func (PySem.W.fnOf "_law_of" "_law_of" (defArgs s8) (defBody s8) (defScope s8) .none kV8 dc8 pm8 an8 cd8 ct8), sl8⟩) (c8 : PySem.W.codeIn K cd8 "_law_of" = true) (k8 : PySem.W.keepIn K (.ref e8) = true)
    (a9 : PySem.W.nsIn K mainGlobals "_law_same" = some (some (.ref e9))) (l9 : K.lookup e9 = some ⟨oc9, od9, .func (PySem.W.fnOf "_law_same" "_law_same" (defArgs s9) (defBody s9) (defScope s9) .none kV9 dc9 pm9 an9 cd9 ct9), sl9⟩) (c9 : PySem.W.codeIn K cd9 "_law_same" = true) (k9 : PySem.W.keepIn K (.ref e9) = true)
    (a10 : PySem.W.nsIn K mainGlobals "_law_lists" = some (some (.ref e10))) (l10 : K.lookup e10 = some ⟨oc10, od10, .func (PySem.W.fnOf "_law_lists" "_law_lists" (defArgs s10) (defBody s10) (defScope s10) .none kV10 dc10 pm10 an10 cd10 ct10), sl10⟩) (c10 : PySem.W.codeIn K cd10 "_law_lists" = true) (k10 : PySem.W.keepIn K (.ref e10) = true)
    (a11 : PySem.W.nsIn K mainGlobals "_law_debts" = some (some (.ref e11))) (l11 : K.lookup e11 = some ⟨oc11, od11, .func (PySem.W.fnOf "_law_debts" "_law_debts" (defArgs s11) (defBody s11) (defScope s11) .none kV11 dc11 pm11 an11 cd11 ct11), sl11⟩) (c11 : PySem.W.codeIn K cd11 "_law_debts" = true) (k11 : PySem.W.keepIn K (.ref e11) = true)
    (a12 : PySem.W.nsIn K mainGlobals "_law_sums" = some (some (.ref e12))) (l12 : K.lookup e12 = some ⟨oc12, od12, .func (PySem.W.fnOf "_law_sums" "_law_sums" (defArgs s12) (defBody s12) (defScope s12) .none kV12 dc12 pm12 an12 cd12 ct12), sl12⟩) (c12 : PySem.W.codeIn K cd12 "_law_sums" = true) (k12 : PySem.W.keepIn K (.ref e12) = true)
    (a13 : PySem.W.nsIn K mainGlobals "_law_book" = some (some (.ref e13))) (l13 : K.lookup e13 = some ⟨oc13, od13, .func (PySem.W.fnOf "_law_book" "_law_book" (defArgs s13) (defBody s13) (defScope s13) .none kV13 dc13 pm13 an13 cd13 ct13), sl13⟩) (c13 : PySem.W.codeIn K cd13 "_law_book" = true) (k13 : PySem.W.keepIn K (.ref e13) = true)
    (a14 : PySem.W.nsIn K mainGlobals "_law_lots" = some (some (.ref e14))) (l14 : K.lookup e14 = some ⟨oc14, od14, .func (PySem.W.fnOf "_law_lots" "_law_lots" (defArgs s14) (defBody s14) (defScope s14) .none kV14 dc14 pm14 an14 cd14 ct14), sl14⟩) (c14 : PySem.W.codeIn K cd14 "_law_lots" = true) (k14 : PySem.W.keepIn K (.ref e14) = true)
    (a15 : PySem.W.nsIn K mainGlobals "_law_folk" = some (some (.ref e15))) (l15 : K.lookup e15 = some ⟨oc15, od15, .func (PySem.W.fnOf "_law_folk" "_law_folk" (defArgs s15) (defBody s15) (defScope s15) .none kV15 dc15 pm15 an15 cd15 ct15), sl15⟩) (c15 : PySem.W.codeIn K cd15 "_law_folk" = true) (k15 : PySem.W.keepIn K (.ref e15) = true)
    (a16 : PySem.W.nsIn K mainGlobals "_law_net" = some (some (.ref e16))) (l16 : K.lookup e16 = some ⟨oc16, od16, .func (PySem.W.fnOf "_law_net" "_law_net" (defArgs s16) (defBody s16) (defScope s16) .none kV16 dc16 pm16 an16 cd16 ct16), sl16⟩) (c16 : PySem.W.codeIn K cd16 "_law_net" = true) (k16 : PySem.W.keepIn K (.ref e16) = true)
    (a17 : PySem.W.nsIn K mainGlobals "_law_nets" = some (some (.ref e17))) (l17 : K.lookup e17 = some ⟨oc17, od17, .func (PySem.W.fnOf "_law_nets" "_law_nets" (defArgs s17) (defBody s17) (defScope s17) .none kV17 dc17 pm17 an17 cd17 ct17), sl17⟩) (c17 : PySem.W.codeIn K cd17 "_law_nets" = true) (k17 : PySem.W.keepIn K (.ref e17) = true)
    (a18 : PySem.W.nsIn K mainGlobals "_law_heard" = some (some (.ref e18))) (l18 : K.lookup e18 = some ⟨oc18, od18, .func (PySem.W.fnOf "_law_heard" "_law_heard" (defArgs s18) (defBody s18) (defScope s18) .none kV18 dc18 pm18 an18 cd18 ct18), sl18⟩) (c18 : PySem.W.codeIn K cd18 "_law_heard" = true) (k18 : PySem.W.keepIn K (.ref e18) = true)
    (a19 : PySem.W.nsIn K mainGlobals "_law_by_hand_right" = some (some (.ref e19))) (l19 : K.lookup e19 = some ⟨oc19, od19, .func (PySem.W.fnOf "_law_by_hand_right" "_law_by_hand_right" (defArgs s19) (defBody s19) (defScope s19) .none kV19 dc19 pm19 an19 cd19 ct19), sl19⟩) (c19 : PySem.W.codeIn K cd19 "_law_by_hand_right" = true) (k19 : PySem.W.keepIn K (.ref e19) = true)
    (a20 : PySem.W.nsIn K mainGlobals "_law_case_right" = some (some (.ref e20))) (l20 : K.lookup e20 = some ⟨oc20, od20, .func (PySem.W.fnOf "_law_case_right" "_law_case_right" (defArgs s20) (defBody s20) (defScope s20) .none kV20 dc20 pm20 an20 cd20 ct20), sl20⟩) (c20 : PySem.W.codeIn K cd20 "_law_case_right" = true) (k20 : PySem.W.keepIn K (.ref e20) = true)
    (a21 : PySem.W.nsIn K mainGlobals "_law_right" = some (some (.ref e21))) (l21 : K.lookup e21 = some ⟨oc21, od21, .func (PySem.W.fnOf "_law_right" "_law_right" (defArgs s21) (defBody s21) (defScope s21) .none kV21 dc21 pm21 an21 cd21 ct21), sl21⟩) (c21 : PySem.W.codeIn K cd21 "_law_right" = true) (k21 : PySem.W.keepIn K (.ref e21) = true)
    (ac : PySem.W.nsIn K mainGlobals "_law_cells" = some (some (.ref ec))) (lc : K.lookup ec = some ⟨occ, odc, .func (PySem.W.fnOf "_law_cells" "_law_cells" (defArgs sCells) (defBody sCells) (defScope sCells) .none kVc dcc pmc anc cdc ctc), slc⟩) (cc : PySem.W.codeIn K cdc "_law_cells" = true) (kc : PySem.W.keepIn K (.ref ec) = true)
    (al : PySem.W.nsIn K mainGlobals "law" = some (some (.ref el))) (ll : K.lookup el = some ⟨ocl, odl, .func (PySem.W.fnOf "law" "law" (defArgs sLaw) (defBody sLaw) (defScope sLaw) .none kVl dcl pml anl cdl ctl), sll⟩) (cl : PySem.W.codeIn K cdl "law" = true) (kl : PySem.W.keepIn K (.ref el) = true)
    (z0 : PySem.W.nsIn K mainGlobals "LookupError" = some none)
    (z1 : PySem.W.nsIn K mainGlobals "abs" = some none)
    (z2 : PySem.W.nsIn K mainGlobals "all" = some none)
    (z3 : PySem.W.nsIn K mainGlobals "bool" = some none)
    (z4 : PySem.W.nsIn K mainGlobals "enumerate" = some none)
    (z5 : PySem.W.nsIn K mainGlobals "int" = some none)
    (z6 : PySem.W.nsIn K mainGlobals "isinstance" = some none)
    (z7 : PySem.W.nsIn K mainGlobals "len" = some none)
    (z8 : PySem.W.nsIn K mainGlobals "list" = some none)
    (z9 : PySem.W.nsIn K mainGlobals "max" = some none)
    (z10 : PySem.W.nsIn K mainGlobals "range" = some none)
    (z11 : PySem.W.nsIn K mainGlobals "set" = some none)
    (z12 : PySem.W.nsIn K mainGlobals "sorted" = some none)
    (z13 : PySem.W.nsIn K mainGlobals "str" = some none)
    (z14 : PySem.W.nsIn K mainGlobals "sum" = some none)
    (z15 : PySem.W.nsIn K mainGlobals "tuple" = some none)
    (z16 : PySem.W.nsIn K mainGlobals "zip" = some none)
    (xsu : PySem.W.nsIn K mainGlobals "super" = some none) (xtop : (l.prog.main.scope.names.lookup ("super" : Str)).isSome = false) (xopq : PySem.W.nsIn K cStatics "thirdparty.any" = some none)
    (xhn : PySem.W.specialIn K (.builtin "object.__class__") "__get__" = some (some (.builtin "getset_descriptor.__get__"))) (xht : PySem.W.takesIn K (.builtin "object.__class__") = some true)
    {C0 I0 cc0 ca0 N0 : Addr} {nm0 qn0 qual0 file0 : Str} {bs0 : List Value} {sn0 : List Str} {sub0 : List Value} {ab0 : Bool} {col0 : Option Bool} {dd0 odx0 anx0 cld0 cdd0 : Option Addr} {kz0_0 kz1_0 kz2_0 kz3_0 kz5_0 : Option Value} {ocx0 docx0 pmx0 ctx0 clx0 ccl0 : Value} {oslx0 csl0 ccs0 : Array (Option Value)} {vs0 : Array Value} {tf0 : Tok}
    {pp0_0 pp0_1 pp0_2 pp0_3 pp0_4 pp0_5 pp0_6 pp0_7 pp0_8 pp0_9 pp0_10 pp0_11 : Pos}
    (xa0 : PySem.W.nsIn K mainGlobals "NoPot" = some (some (.ref C0)))
    (xl0 : K.lookup C0 = some (excClassObj nm0 qn0 C0 N0 bs0 ([.type "LookupError", .type "Exception", .type "BaseException", .type "object"] : List Value) true sn0 sub0 ab0 col0 dd0 kz0_0 kz1_0 kz2_0 kz3_0 kz5_0 "LookupError.__new__"))
    (xs0 : PySem.W.findIn K (.ref C0) "__setattr__" = some (some (.builtin "object.__setattr__")))
    (xn0 : PySem.W.findIn K (.ref C0) "pot" = some none)
    (xi0 : PySem.W.findIn K (.ref C0) "__init__" = some (some (.ref I0)))
    (xt0 : PySem.W.typeIn K (.ref I0) = some (.type "function"))
    (xk0 : PySem.W.keepIn K (.ref C0) = true)
    (xe0 : PySem.W.subIn K (.ref C0) (.type "BaseException") = some true)
    (xy0 : PySem.W.typeIn K (.ref C0) = some (.type "type"))
    (xb0 : PySem.W.subIn K (.ref C0) (.type "LookupError") = some true)
    (xm0 : PySem.W.mroIn K C0 (.ref C0) = some true)
    (xp0 : PySem.W.ks_superIn K C0 C0 "__init__" = some (some (.builtin "LookupError.__init__")))
    (xf0 : K.lookup I0 = some ⟨ocx0, odx0, .func (PySem.W.ksFn "__init__" qual0 (eA "pot" pp0_0 pp0_1) (eB "pot" pp0_2 pp0_3 pp0_4 pp0_5 pp0_6 pp0_7 pp0_8 pp0_9 pp0_10 pp0_11) (eS "pot") .none .none docx0 pmx0 anx0 (.ref ca0) ctx0 cc0), oslx0⟩)
    (xo0 : PySem.W.codeIn K (.ref ca0) qual0 = true)
    (xq0 : (pp0_4.endLine == pp0_6.line) = true)
    (xc0 : K.lookup cc0 = some ⟨clx0, cld0, .cell (some (.ref C0)), csl0⟩)
    (xd0 : K.lookup ca0 = some ⟨ccl0, cdd0, .fields vs0, ccs0⟩)
    (xv0 : vs0[2]? = some (.str file0 tf0))
    (xw0 : ((l.prog.main.file : Str) == file0) = true)
    (ya0 : PySem.W.findIn K (.ref C0) "__getattribute__" = some (some (.builtin "BaseException.__getattribute__")))
    (yg0 : PySem.W.findIn K (.ref C0) "__getattr__" = some none)
    (yd0 : PySem.W.hasDictIn K C0 = true)
    (yc0 : (PySem.W.clsIn K C0).isSome = true)
    (yt0 : PySem.W.exmOne K (.ref C0) (.ref C0) = some true)
    (yk0 : PySem.W.findIn K (.ref C0) "__class__" = some (some (.builtin "object.__class__")))
    (ym0 : PySem.W.mroIn K C0 (.type "object") = some true)
    (yi0 : PySem.W.kitOne K (.ref C0) (.type "LookupError") = some true)
    : ∃ fd : FuncData, (∀ (s : Shared) (v : Value), BindsTo s fd ⟨[v], []⟩ [("_law_script", v)]) ∧ ∀ base : Heap, K.In base → base.Ns mainGlobals mg → FnOk l.prog w K mg base (L2.CX l.prog w) 22 fa fd ["_law_script"] (spLaw K) := by
  have e := hfa.symm.trans (PySem.W.mg_of X G al)
  cases e
  have F0 := fun_mk (st := s0) l0 c0 k0
  have F1 := fun_mk (st := s1) l1 c1 k1
  have F2 := fun_mk (st := s2) l2 c2 k2
  have F3 := fun_mk (st := s3) l3 c3 k3
  have F4 := fun_mk (st := s4) l4 c4 k4
  have F5 := fun_mk (st := s5) l5 c5 k5
  have F6 := fun_mk (st := s6) l6 c6 k6
  have F7 := fun_mk (st := s7) l7 c7 k7
  have F8 := fun_mk (st := s8) l8 c8 k8
  have F9 := fun_mk (st := s9) l9 c9 k9
  have F10 := fun_mk (st := s10) l10 c10 k10
  have F11 := fun_mk (st := s11) l11 c11 k11
  have F12 := fun_mk (st := s12) l12 c12 k12
  have F13 := fun_mk (st := s13) l13 c13 k13
  have F14 := fun_mk (st := s14) l14 c14 k14
  have F15 := fun_mk (st := s15) l15 c15 k15
  have F16 := fun_mk (st := s16) l16 c16 k16
  have F17 := fun_mk (st := s17) l17 c17 k17
  have F18 := fun_mk (st := s18) l18 c18 k18
  have F19 := fun_mk (st := s19) l19 c19 k19
  have F20 := fun_mk (st := s20) l20 c20 k20
  have F21 := fun_mk (st := s21) l21 c21 k21
  have Fc := fun_mk (st := sCells) lc cc kc
  have Fl := fun_mk (st := sLaw) ll cl kl
  have B0 := F0.binds (ps := ["row"]) fun _ _ _ _ _ _ us hl => match us, hl with | [_], _ => rfl
  have B1 := F1.binds (ps := ["book"]) fun _ _ _ _ _ _ us hl => match us, hl with | [_], _ => rfl
  have B2 := F2.binds (ps := ["debts", "places"]) fun _ _ _ _ _ _ us hl => match us, hl with | [_, _], _ => rfl
  have B3 := F3.binds (ps := ["debts", "amounts", "places"]) fun _ _ _ _ _ _ us hl => match us, hl with | [_, _, _], _ => rfl
  have B4 := F4.binds (ps := ["debts", "book", "pot", "amounts"]) fun _ _ _ _ _ _ us hl => match us, hl with | [_, _, _, _], _ => rfl
  have B5 := F5.binds (ps := ["debts", "book", "amounts"]) fun _ _ _ _ _ _ us hl => match us, hl with | [_, _, _], _ => rfl
  have B6 := F6.binds (ps := ["_law_script", "_law_k"]) fun _ _ _ _ _ _ us hl => match us, hl with | [_, _], _ => rfl
  have B7 := F7.binds (ps := ["_law_box_here", "_law_below_so"]) fun _ _ _ _ _ _ us hl => match us, hl with | [_, _], _ => rfl
  have B8 := F8.binds (ps := ["_law_box_here", "_law_pool_so"]) fun _ _ _ _ _ _ us hl => match us, hl with | [_, _], _ => rfl
  have B9 := F9.binds (ps := ["_law_got", "_law_due"]) fun _ _ _ _ _ _ us hl => match us, hl with | [_, _], _ => rfl
  have B10 := F10.binds (ps := ["_law_matter_so"]) fun _ _ _ _ _ _ us hl => match us, hl with | [_], _ => rfl
  have B11 := F11.binds (ps := ["_law_box_here", "_law_most_so"]) fun _ _ _ _ _ _ us hl => match us, hl with | [_, _], _ => rfl
  have B12 := F12.binds (ps := ["_law_box_here", "_law_debts_so"]) fun _ _ _ _ _ _ us hl => match us, hl with | [_, _], _ => rfl
  have B13 := F13.binds (ps := ["_law_box_here", "_law_many_so"]) fun _ _ _ _ _ _ us hl => match us, hl with | [_, _], _ => rfl
  have B14 := F14.binds (ps := ["_law_mine"]) fun _ _ _ _ _ _ us hl => match us, hl with | [_], _ => rfl
  have B15 := F15.binds (ps := ["_law_debts_so", "_law_some"]) fun _ _ _ _ _ _ us hl => match us, hl with | [_, _], _ => rfl
  have B16 := F16.binds (ps := ["_law_debts_so", "_law_sums_so", "_law_some", "_law_tag"]) fun _ _ _ _ _ _ us hl => match us, hl with | [_, _, _, _], _ => rfl
  have B17 := F17.binds (ps := ["_law_debts_so", "_law_sums_so", "_law_some"]) fun _ _ _ _ _ _ us hl => match us, hl with | [_, _, _], _ => rfl
  have B18 := F18.binds (ps := ["_law_debts_so", "_law_mine", "_law_pot_so", "_law_sums_so"]) fun _ _ _ _ _ _ us hl => match us, hl with | [_, _, _, _], _ => rfl
  have B19 := F19.binds (ps := []) fun _ _ _ _ _ _ us hl => match us, hl with | [], _ => rfl
  have B20 := F20.binds (ps := ["_law_box_here"]) fun _ _ _ _ _ _ us hl => match us, hl with | [_], _ => rfl
  have B21 := F21.binds (ps := ["_law_box_here"]) fun _ _ _ _ _ _ us hl => match us, hl with | [_], _ => rfl
  have Bc := Fc.binds (ps := ["_law_script", "_law_top_so"]) fun _ _ _ _ _ _ us hl => match us, hl with | [_, _], _ => rfl
  have T : AtTop l.prog ⟨fun i => [C0].getD i 0, fun i => ["pot"].getD i ""⟩ K mg T (fun i => [e0, e1, e2, e3, e4, e5, e6, e7, e8, e9, e10, e11, e12, e13, e14, e15, e16, e17, e18, e19, e20, e21].getD i 0) (fun i => [PySem.W.fnOf "set_of" "set_of" (defArgs s0) (defBody s0) (defScope s0) .none kV0 dc0 pm0 an0 cd0 ct0, PySem.W.fnOf "pots_of" "pots_of" (defArgs s1) (defBody s1) (defScope s1) .none kV1 dc1 pm1 an1 cd1 ct1, PySem.W.fnOf "people_of" "people_of" (defArgs s2) (defBody s2) (defScope s2) .none kV2 dc2 pm2 an2 cd2 ct2, PySem.W.fnOf "nets_of" "nets_of" (defArgs s3) (defBody s3) (defScope s3) .none kV3 dc3 pm3 an3 cd3 ct3, PySem.W.fnOf "pot_nets" "pot_nets" (defArgs s4) (defBody s4) (defScope s4) .none kV4 dc4 pm4 an4 cd4 ct4, PySem.W.fnOf "table" "table" (defArgs s5) (defBody s5) (defScope s5) .none kV5 dc5 pm5 an5 cd5 ct5, PySem.W.fnOf "_law_box" "_law_box" (defArgs s6) (defBody s6) (defScope s6) .none kV6 dc6 pm6 an6 cd6 ct6, PySem.W.fnOf "_law_take" "_law_take" (defArgs s7) (defBody s7) (defScope s7) .none kV7 dc7 pm7 an7 cd7 ct7, PySem.W.fnOf "_law_of" "_law_of" (defArgs s8) (defBody s8) (defScope s8) .none kV8 dc8 pm8 an8 cd8 ct8, PySem.W.fnOf "_law_same" "_law_same" (defArgs s9) (defBody s9) (defScope s9) .none kV9 dc9 pm9 an9 cd9 ct9, PySem.W.fnOf "_law_lists" "_law_lists" (defArgs s10) (defBody s10) (defScope s10) .none kV10 dc10 pm10 an10 cd10 ct10, PySem.W.fnOf "_law_debts" "_law_debts" (defArgs s11) (defBody s11) (defScope s11) .none kV11 dc11 pm11 an11 cd11 ct11, PySem.W.fnOf "_law_sums" "_law_sums" (defArgs s12) (defBody s12) (defScope s12) .none kV12 dc12 pm12 an12 cd12 ct12, PySem.W.fnOf "_law_book" "_law_book" (defArgs s13) (defBody s13) (defScope s13) .none kV13 dc13 pm13 an13 cd13 ct13, PySem.W.fnOf "_law_lots" "_law_lots" (defArgs s14) (defBody s14) (defScope s14) .none kV14 dc14 pm14 an14 cd14 ct14, PySem.W.fnOf "_law_folk" "_law_folk" (defArgs s15) (defBody s15) (defScope s15) .none kV15 dc15 pm15 an15 cd15 ct15, PySem.W.fnOf "_law_net" "_law_net" (defArgs s16) (defBody s16) (defScope s16) .none kV16 dc16 pm16 an16 cd16 ct16, PySem.W.fnOf "_law_nets" "_law_nets" (defArgs s17) (defBody s17) (defScope s17) .none kV17 dc17 pm17 an17 cd17 ct17, PySem.W.fnOf "_law_heard" "_law_heard" (defArgs s18) (defBody s18) (defScope s18) .none kV18 dc18 pm18 an18 cd18 ct18, PySem.W.fnOf "_law_by_hand_right" "_law_by_hand_right" (defArgs s19) (defBody s19) (defScope s19) .none kV19 dc19 pm19 an19 cd19 ct19, PySem.W.fnOf "_law_case_right" "_law_case_right" (defArgs s20) (defBody s20) (defScope s20) .none kV20 dc20 pm20 an20 cd20 ct20, PySem.W.fnOf "_law_right" "_law_right" (defArgs s21) (defBody s21) (defScope s21) .none kV21 dc21 pm21 an21 cd21 ct21].getD i (PySem.W.fnOf "law" "law" (defArgs sLaw) (defBody sLaw) (defScope sLaw) .none kVl dcl pml anl cdl ctl)) := by
    refine ⟨fun f d hd => ?_, fun x hx => ?_, fun q hq => ?_, fun kw hk d hd => ?_, fun q hq => ?_⟩
    · match f, hd with
      | 0, hd => cases hd; exact ⟨F0, B0, PySem.W.mg_of X G a0⟩
      | 1, hd => cases hd; exact ⟨F1, B1, PySem.W.mg_of X G a1⟩
      | 2, hd => cases hd; exact ⟨F2, B2, PySem.W.mg_of X G a2⟩
      | 3, hd => cases hd; exact ⟨F3, B3, PySem.W.mg_of X G a3⟩
      | 4, hd => cases hd; exact ⟨F4, B4, PySem.W.mg_of X G a4⟩
      | 5, hd => cases hd; exact ⟨F5, B5, PySem.W.mg_of X G a5⟩
      | 6, hd => cases hd; exact ⟨F6, B6, PySem.W.mg_of X G a6⟩
      | 7, hd => cases hd; exact ⟨F7, B7, PySem.W.mg_of X G a7⟩
      | 8, hd => cases hd; exact ⟨F8, B8, PySem.W.mg_of X G a8⟩
      | 9, hd => cases hd; exact ⟨F9, B9, PySem.W.mg_of X G a9⟩
      | 10, hd => cases hd; exact ⟨F10, B10, PySem.W.mg_of X G a10⟩
      | 11, hd => cases hd; exact ⟨F11, B11, PySem.W.mg_of X G a11⟩
      | 12, hd => cases hd; exact ⟨F12, B12, PySem.W.mg_of X G a12⟩
      | 13, hd => cases hd; exact ⟨F13, B13, PySem.W.mg_of X G a13⟩
      | 14, hd => cases hd; exact ⟨F14, B14, PySem.W.mg_of X G a14⟩
      | 15, hd => cases hd; exact ⟨F15, B15, PySem.W.mg_of X G a15⟩
      | 16, hd => cases hd; exact ⟨F16, B16, PySem.W.mg_of X G a16⟩
      | 17, hd => cases hd; exact ⟨F17, B17, PySem.W.mg_of X G a17⟩
      | 18, hd => cases hd; exact ⟨F18, B18, PySem.W.mg_of X G a18⟩
      | 19, hd => cases hd; exact ⟨F19, B19, PySem.W.mg_of X G a19⟩
      | 20, hd => cases hd; exact ⟨F20, B20, PySem.W.mg_of X G a20⟩
      | 21, hd => cases hd; exact ⟨F21, B21, PySem.W.mg_of X G a21⟩
    · simp only [T, List.mem_cons, List.not_mem_nil, or_false] at hx
      rcases hx with rfl | rfl | rfl | rfl | rfl | rfl | rfl | rfl | rfl | rfl | rfl | rfl | rfl | rfl | rfl | rfl | rfl
      · exact PySem.W.mg_none_of X G z0
      · exact PySem.W.mg_none_of X G z1
      · exact PySem.W.mg_none_of X G z2
      · exact PySem.W.mg_none_of X G z3
      · exact PySem.W.mg_none_of X G z4
      · exact PySem.W.mg_none_of X G z5
      · exact PySem.W.mg_none_of X G z6
      · exact PySem.W.mg_none_of X G z7
      · exact PySem.W.mg_none_of X G z8
      · exact PySem.W.mg_none_of X G z9
      · exact PySem.W.mg_none_of X G z10
      · exact PySem.W.mg_none_of X G z11
      · exact PySem.W.mg_none_of X G z12
      · exact PySem.W.mg_none_of X G z13
      · exact PySem.W.mg_none_of X G z14
      · exact PySem.W.mg_none_of X G z15
      · exact PySem.W.mg_none_of X G z16
    · cases hq
    · simp only [T, List.mem_cons, List.not_mem_nil, or_false] at hk
      rcases hk with rfl | rfl
      · cases hd; exact ⟨rfl, fun us ws h1 h2 => match us, ws, h1, h2 with | [], [_, _, _], _, _ => rfl⟩
      · cases hd; exact ⟨rfl, fun us ws h1 h2 => match us, ws, h1, h2 with | [], [_, _, _, _], _, _ => rfl⟩
    · simp only [T, List.mem_cons, List.not_mem_nil, or_false] at hq
      rcases hq with rfl
      · exact ⟨_, _, _, I0, cc0, ca0, { fact := base_LookupError, gC := PySem.W.mg_of X G xa0, cls := ⟨_, _, _, _, _, _, _, _, _, _, _, _, _, _, xl0⟩, sa := xs0, noF := xn0, iC := xi0, tC := xt0, kC := xk0, exC := xe0, tyC := xy0, subB := xb0, mroC := xm0, sup := xp0, cell := ⟨_, _, _, xc0⟩, code := ⟨_, _, _, _, _, _, xd0, xv0, xw0⟩, noS := PySem.W.mg_none_of X G xsu, noTop := xtop, opq := xopq, fn := ⟨_, _, _, _, _, _, _, _, _, _, _, _, _, _, _, _, _, _, _, _, xf0, xo0, xq0⟩, fS := by decide, fD := by decide, kF := by decide, kS := by decide, kK := by decide, kU := by decide }, { ga := ya0, gg := yg0, hd := yd0, cl := yc0, te := yt0, ha := yk0, hn := xhn, ht := xht, hm := ym0, kit := yi0 }, rfl, binds_pot, by decide⟩
  refine ⟨PySem.W.fnOf "law" "law" (defArgs sLaw) (defBody sLaw) (defScope sLaw) .none kVl dcl pml anl cdl ctl, fun s v => .of_eq rfl, fun base _ _ => ?_⟩
  have Cc := cells_ok (Pr := l.prog) (w := w) (base := base) (mg := mg) (s := "_law_script") (t := "_law_top_so") (c := "_law_cells_so") (k := "_law_k") (e := "_law_cell") (a := "_law_at_so") Fc (scB_of (by decide +kernel)) rfl (by decide +kernel) (by decide +kernel) (by decide +kernel) (by decide +kernel) (by decide +kernel) (by decide +kernel) (by decide +kernel) (by decide +kernel) (by decide +kernel) (PySem.W.mg_none_of X G z8) (PySem.W.mg_none_of X G z4) (PySem.W.mg_none_of X G z5) (by decide +kernel)
  exact law_ok (k := 20) ⟨fun i => [C0].getD i 0, fun i => ["pot"].getD i ""⟩ oLaw oAll T Fl Cc (PySem.W.mg_of X G ac) kc Bc hand_true.choose_spec draws_true
theorem walk {l : PySem.W.OpenLaw} {q : Program} {loose : List Str} {XP : (Str → Option Value) → Heap → Prop} {YP : World → Heap → Prop} {d : DefRec} {K : Params → PySem.W.Frag} (hn : l.most = some 63) (hdf : d.params.defaults = []) (hY : ∀ (w : World) (h : Heap), YP w h → (K w.params).In h)
    (F : ∀ (w : World) (mg : Str → Option Value) (fa : Addr) (h : Heap), (K w.params).In h → h.Ns mainGlobals mg → mg d.name = some (.ref fa) → ∃ fd : FuncData, (∀ (s : Shared) (u : Value), BindsTo s fd ⟨[u], []⟩ [("_law_script", u)]) ∧ ∀ base : Heap, (K w.params).In base → base.Ns mainGlobals mg → FnOk l.prog w (K w.params) mg base (L2.CX l.prog w) 22 fa fd ["_law_script"] (spLaw (K w.params))) :
    PySem.W.WalkO q loose XP YP l.row.toRowW d [] (fun f vs => PySem.call f vs) :=
  L2.walk_of (n := 63) (k := 22) (x := "_law_script") (CX := fun w => L2.CX l.prog w) (sp := fun w => spLaw (K w.params)) hn (by decide) hdf ⟨rfl, by decide, by decide⟩ hY F (fun _ _ a ns hl _ hS => ⟨a, ns, rfl, hS, hl, fun _ => rfl⟩) fun w H s e s' ⟨_, _, _, _, _, _, _, _, _, _, _, _, z⟩ => z
end Lw
open PySem PySem.W PyProof.Rows
set_option maxRecDepth 100000 in
set_option maxHeartbeats 0 in
theorem PySem.Challenge.cw_nettingpots_k07_nets_in_pots_holds : PySem.Challenge.rw_nettingpots_k07_nets_in_pots.Holds := by
  w_on; o_law; k_head; (case hw => w_witness2)
  k_fill
  refine Lw.walk (l := PySem.Challenge.rw_nettingpots_k07_nets_in_pots) rfl rfl (fun w h Y => PySem.W.kIn_of Y) ?F
  case F =>
    intro w mg fa h KX G hmg
    refine' Lw.all_mk KX G hmg ?a0 ?l0 ?c0 ?k0 ?a1 ?l1 ?c1 ?k1 ?a2 ?l2 ?c2 ?k2 ?a3 ?l3 ?c3 ?k3 ?a4 ?l4 ?c4 ?k4 ?a5 ?l5 ?c5 ?k5 ?a6 ?l6 ?c6 ?k6 ?a7 ?l7 ?c7 ?k7 ?a8 ?l8 ?c8 ?k8 ?a9 ?l9 ?c9 ?k9 ?a10 ?l10 ?c10 ?k10 ?a11 ?l11 ?c11 ?k11 ?a12 ?l12 ?c12 ?k12 ?a13 ?l13 ?c13 ?k13 ?a14 ?l14 ?c14 ?k14 ?a15 ?l15 ?c15 ?k15 ?a16 ?l16 ?c16 ?k16 ?a17 ?l17 ?c17 ?k17 ?a18 ?l18 ?c18 ?k18 ?a19 ?l19 ?c19 ?k19 ?a20 ?l20 ?c20 ?k20 ?a21 ?l21 ?c21 ?k21 ?ac ?lc ?cc ?kc ?al ?ll ?cl ?kl ?z0 ?z1 ?z2 ?z3 ?z4 ?z5 ?z6 ?z7 ?z8 ?z9 ?z10 ?z11 ?z12 ?z13 ?z14 ?z15 ?z16 ?xsu ?xtop ?xopq ?xhn ?xht ?xa0 ?xl0 ?xs0 ?xn0 ?xi0 ?xt0 ?xk0 ?xe0 ?xy0 ?xb0 ?xm0 ?xp0 ?xf0 ?xo0 ?xq0 ?xc0 ?xd0 ?xv0 ?xw0 ?ya0 ?yg0 ?yd0 ?yc0 ?yt0 ?yk0 ?ym0 ?yi0
    (case a0 => k_is); (case l0 => k_is); (case c0 => k_is); (case k0 => k_is)
    (case a1 => k_is); (case l1 => k_is); (case c1 => k_is); (case k1 => k_is)
    (case a2 => k_is); (case l2 => k_is); (case c2 => k_is); (case k2 => k_is)
    (case a3 => k_is); (case l3 => k_is); (case c3 => k_is); (case k3 => k_is)
    (case a4 => k_is); (case l4 => k_is); (case c4 => k_is); (case k4 => k_is)
    (case a5 => k_is); (case l5 => k_is); (case c5 => k_is); (case k5 => k_is)
    (case a6 => k_is); (case l6 => k_is); (case c6 => k_is); (case k6 => k_is)
    (case a7 => k_is); (case l7 => k_is); (case c7 => k_is); (case k7 => k_is)
    (case a8 => k_is); (case l8 => k_is); (case c8 => k_is); (case k8 => k_is)
    (case a9 => k_is); (case l9 => k_is); (case c9 => k_is); (case k9 => k_is)
    (case a10 => k_is); (case l10 => k_is); (case c10 => k_is); (case k10 => k_is)
    (case a11 => k_is); (case l11 => k_is); (case c11 => k_is); (case k11 => k_is)
    (case a12 => k_is); (case l12 => k_is); (case c12 => k_is); (case k12 => k_is)
    (case a13 => k_is); (case l13 => k_is); (case c13 => k_is); (case k13 => k_is)
    (case a14 => k_is); (case l14 => k_is); (case c14 => k_is); (case k14 => k_is)
    (case a15 => k_is); (case l15 => k_is); (case c15 => k_is); (case k15 => k_is)
    (case a16 => k_is); (case l16 => k_is); (case c16 => k_is); (case k16 => k_is)
    (case a17 => k_is); (case l17 => k_is); (case c17 => k_is); (case k17 => k_is)
    (case a18 => k_is); (case l18 => k_is); (case c18 => k_is); (case k18 => k_is)
    (case a19 => k_is); (case l19 => k_is); (case c19 => k_is); (case k19 => k_is)
    (case a20 => k_is); (case l20 => k_is); (case c20 => k_is); (case k20 => k_is)
    (case a21 => k_is); (case l21 => k_is); (case c21 => k_is); (case k21 => k_is)
    (case ac => k_is); (case lc => k_is); (case cc => k_is); (case kc => k_is)
    (case al => k_is); (case ll => k_is); (case cl => k_is); (case kl => k_is)
    (case z0 => k_is); (case z1 => k_is); (case z2 => k_is); (case z3 => k_is)
    (case z4 => k_is); (case z5 => k_is); (case z6 => k_is); (case z7 => k_is)
    (case z8 => k_is); (case z9 => k_is); (case z10 => k_is); (case z11 => k_is)
    (case z12 => k_is); (case z13 => k_is); (case z14 => k_is); (case z15 => k_is)
    (case z16 => k_is); (case xsu => first | k_is | kernel_rfl | rfl | decide); (case xtop => first | k_is | kernel_rfl | rfl | decide); (case xopq => first | k_is | kernel_rfl | rfl | decide)
    (case xhn => first | k_is | kernel_rfl | rfl | decide); (case xht => first | k_is | kernel_rfl | rfl | decide); (case xa0 => first | k_is | kernel_rfl | rfl | decide); (case xl0 => first | k_is | kernel_rfl | rfl | decide)
    (case xs0 => first | k_is | kernel_rfl | rfl | decide); (case xn0 => first | k_is | kernel_rfl | rfl | decide); (case xi0 => first | k_is | kernel_rfl | rfl | decide); (case xt0 => first | k_is | kernel_rfl | rfl | decide)
    (case xk0 => first | k_is | kernel_rfl | rfl | decide); (case xe0 => first | k_is | kernel_rfl | rfl | decide); (case xy0 => first | k_is | kernel_rfl | rfl | decide); (case xb0 => first | k_is | kernel_rfl | rfl | decide)
    (case xm0 => first | k_is | kernel_rfl | rfl | decide); (case xp0 => first | k_is | kernel_rfl | rfl | decide); (case xf0 => first | k_is | kernel_rfl | rfl | decide); (case xo0 => first | k_is | kernel_rfl | rfl | decide)
    (case xq0 => first | k_is | kernel_rfl | rfl | decide); (case xc0 => first | k_is | kernel_rfl | rfl | decide); (case xd0 => first | k_is | kernel_rfl | rfl | decide); (case xv0 => exact rfl)
    (case xw0 => first | k_is | kernel_rfl | rfl | decide); (case ya0 => first | k_is | kernel_rfl | rfl | decide); (case yg0 => first | k_is | kernel_rfl | rfl | decide); (case yd0 => first | k_is | kernel_rfl | rfl | decide)
    (case yc0 => first | k_is | kernel_rfl | rfl | decide); (case yt0 => first | k_is | kernel_rfl | rfl | decide); (case yk0 => first | k_is | kernel_rfl | rfl | decide); (case ym0 => first | k_is | kernel_rfl | rfl | decide)
    (case yi0 => first | k_is | kernel_rfl | rfl | decide)
