import PyProof.Rows.All
import Wide.All
import OpenK.AllK
import Wide.FinOn
import HandS.Base
import HandS.Call
import HandS.List
import KE.SortData
import HandS.Words
import HandS.Flow
import HandS.Star
import KE.DataCmp
import HandS.Deep
import HandS.TupMul
import HandS.TupAny
import HandS.Text
import HandS.Conv
import PyProof.P3In
import HandS.ExcOwn
import HandS.Comp
import HandS.Iter
import HandS.TryOnly
import KE.DataMinMax
import HandS.IsInst
import HandS.Style
import HandS.Zip
import HandS.StrMore
import HandS.WordsExc
import PySem.Challenge.RW_nettingpots_k58_pairs_that_may_not_lie_t
/-! text D0 -/
set_option Elab.async false
set_option linter.all false
set_option maxRecDepth 100000
set_option maxHeartbeats 4000000
namespace Dv
open PySem

/-! ### data, states, results -/
abbrev P := PyData
/-- a source of draws -/
abbrev Bx := Int × Int × Int
inductive R (α : Type) where
  | ok (a : α) (b : Bx)
  | ex (c : Nat) (d : Option P) (b : Bx)
  | no
def R.bind {α β : Type} (r : R α) (f : α → Bx → R β) : R β :=
  match r with
  | .ok a b => f a b
  | .ex c d b => .ex c d b
  | .no => .no
def R.ofO {α : Type} (o : Option α) (b : Bx) : R α :=
  match o with
  | some a => .ok a b
  | none => .no
/-- a slot: nothing, a value that is never changed any more, a list of the def's own -/
inductive Sl where
  | no
  | v (d : P)
  | o (d : P)
abbrev Env := List Sl
inductive Out where
  | nx (e : Env) (b : Bx)
  | rt (d : P) (b : Bx)
  | xx (e : Env) (c : Nat) (d : Option P) (b : Bx)
  | no

/-! ### syntax -/
inductive Op where
  | add | sub | mul | fdiv | mod | pow | band | bxor | shl | shr
inductive Cp where
  | eq | ne | lt | le | gt | ge | is_ | isn | in_ | nin
inductive Tg where
  | nm (i : Nat)
  | tp (t : Tg)
  | nil
  | cons (a b : Tg)
inductive Bi where
  | len | abs | int_ | bool_ | str_ | tuple_ | list_ | sorted | sortset | lenset | sum | max | min | all | any
inductive Mt where
  | strip | index | get1 | get2 | join | split | partition | bitlen | count
inductive Ty where
  | int_ | str_ | bool_ | tuple_ | list_ | seq_ | numstr
inductive IE where
  | var (i : Nat)
  | ovar (i : Nat)
  | cst (d : P)
  | glob (d : P)
  | bin (op : Op) (a b : IE)
  | neg (a : IE)
  | not (a : IE)
  | cmp (op : Cp) (a b : IE)
  | chain (o1 o2 : Cp) (a b c : IE)
  | chain3 (o1 o2 o3 : Cp) (a b c d : IE)
  | bget (j : Nat)
  | and (a b : IE)
  | or (a b : IE)
  | ite (c a b : IE)
  | nil
  | cons (a as : IE)
  | star (a as : IE)
  | tup (as : IE)
  | lst (as : IE)
  | idx (a i : IE)
  | slc (a lo hi : IE)
  | rev (a : IE)
  | lc (own : List Nat) (elt : IE) (tg : Tg) (it ifs : IE)
  | lc2 (own own2 : List Nat) (elt : IE) (tg : Tg) (it ifs : IE) (tg2 : Tg) (it2 ifs2 : IE)
  | call (f : Nat) (as : IE)
  | callK (f : Nat) (perm : List Nat) (as ks : IE)
  | callB (f : Nat) (as : IE)
  | callX (f : Nat) (a as : IE)
  | bi (b : Bi) (as : IE)
  | isi (t : Ty) (a : IE)
  | mth (m : Mt) (a as : IE)
  | rng (as : IE)
  | trg (as : IE)
  | lrg (as : IE)
  | enm (a : IE)
  | zip (a b : IE)
  | tmp (is : List Nat) (a : IE)
inductive IS where
  | nop
  | seq (a b : IS)
  | set (i : Nat) (ow : Bool) (e : IE)
  | par2 (i : Nat) (oi : Bool) (j : Nat) (oj : Bool) (a b : IE)
  | par3 (i : Nat) (oi : Bool) (j : Nat) (oj : Bool) (l : Nat) (ol : Bool) (a b c : IE)
  | sett (tg : Tg) (e : IE)
  | app (i : Nat) (e : IE)
  | ext (i : Nat) (e : IE)
  | pop (j i : Nat) (e : IE)
  | stix (i : Nat) (k e : IE)
  | bset (j : Nat) (e : IE)
  | augx (i : Nat) (k : IE) (op : Op) (e : IE)
  | aug (i : Nat) (op : Op) (e : IE)
  | frz (i : Nat)
  | forr (tg : Tg) (it : IE) (body : IS)
  | whil (c : IE) (body : IS)
  | iff (c : IE) (a b : IS)
  | ret (e : IE)
  | retn
  | drop (e : IE)
  | raise (c : Nat) (e : Option IE)

/-! ### operations on data -/
def isFlat : P → Bool
  | .none | .bool _ | .int _ | .str _ => true
  | _ => false
mutual
/-- no list, no dict within -/
def hard : P → Bool
  | .none | .bool _ | .int _ | .str _ => true
  | .tuple xs => hardA xs
  | _ => false
def hardA : List P → Bool
  | [] => true
  | x :: xs => hard x && hardA xs
end
def big : Int := 18446744073709551616
def line : Nat := 16777216
/-- not above n, either way; by Nat.ble alone, so that it is cheap where i is open -/
def leN (i : Int) (n : Nat) : Bool := Nat.ble i.natAbs n
theorem leN_iff {i : Int} {n : Nat} (h : leN i n = true) : -(n : Int) ≤ i ∧ i ≤ n := by
  have h : i.natAbs ≤ n := Nat.le_of_ble_eq_true h
  omega
theorem leN_of {i : Int} {n : Nat} (h : i.natAbs ≤ n) : leN i n = true := Nat.ble_eq_true_of_le h
def mulOk (i j : Int) : Bool := leN i 18446744073709551615 || leN j 18446744073709551615
def repD (xs : List P) (k : Int) : Option (List P) :=
  if leN k 4611686018427387903 && Nat.ble (xs.length * k.toNat) line then some (List.replicate k.toNat xs).flatten else none
def binD (op : Op) (x y : P) : Option P :=
  match op, x, y with
  | .add, .int i, .int j => some (.int (i + j))
  | .add, .list xs, .list ys => if xs.length + ys.length ≤ line then some (.list (xs ++ ys)) else none
  | .add, .tuple xs, .tuple ys => if xs.length + ys.length ≤ line then some (.tuple (xs ++ ys)) else none
  | .add, .str a, .str b => if a.length + b.length ≤ line then some (.str ⟨a.cps ++ b.cps⟩) else none
  | .sub, .int i, .int j => some (.int (i - j))
  | .mul, .int i, .int j => if mulOk i j then some (.int (i * j)) else none
  | .mul, .list xs, .int k => (repD xs k).map .list
  | .mul, .tuple xs, .int k => (repD xs k).map .tuple
  | .fdiv, .int i, .int j => if decide (j ≠ 0) && decide (j.natAbs < 1073741824) then some (.int (i.fdiv j)) else none
  | .mod, .int i, .int j => if decide (j ≠ 0) then some (.int (i.fmod j)) else none
  | .pow, .int i, .int j => if decide (0 ≤ j) && decide (j ≤ 1000000) && decide (i.natAbs < 18446744073709551616) then some (.int (i ^ j.toNat)) else none
  | _, _, _ => none
def eqD (x y : P) : Option Bool := if SeqAt.shaped x && SeqAt.shaped y then some (PyData.eqv x y) else none
/-- one sign in a text -/
def signIn (a b : Str) : Option Bool :=
  match a.cps.toList with
  | [c] => some (b.cps.toList.contains c)
  | _ => none
def noNone : P → Bool
  | .none => false
  | _ => true
/-- two values of one form, by which may be ordered -/
def ordD (x y : P) : Bool := PySem.W.alike x y && noNone x && decide (x.depth ≤ 60)
def cmpD (op : Cp) (x y : P) : Option Bool :=
  match op with
  | .eq => eqD x y
  | .ne => (eqD x y).map (!·)
  | .lt => match x, y with
    | .int i, .int j => some (decide (i < j))
    | x, y => if ordD x y then some (PySem.W.dataLt x y) else none
  | .le => match x, y with
    | .int i, .int j => some (decide (i ≤ j))
    | x, y => if ordD x y then some (!PySem.W.dataLt y x) else none
  | .gt => match x, y with
    | .int i, .int j => some (decide (j < i))
    | x, y => if ordD x y then some (PySem.W.dataLt y x) else none
  | .ge => match x, y with
    | .int i, .int j => some (decide (j ≤ i))
    | x, y => if ordD x y then some (!PySem.W.dataLt x y) else none
  | .is_ => match y with
    | .none => some (match x with | .none => true | _ => false)
    | _ => none
  | .isn => match y with
    | .none => some (match x with | .none => false | _ => true)
    | _ => none
  | .in_ => match x, y with
    | .str a, .str b => signIn a b
    | d, .list ys => if SeqAt.shaped d && SeqAt.shaped (.list ys) then some (ys.any fun z => PyData.eqv z d) else none
    | d, .tuple ys => if SeqAt.shaped d && SeqAt.shaped (.tuple ys) then some (ys.any fun z => PyData.eqv z d) else none
    | _, _ => none
  | .nin => match x, y with
    | .str a, .str b => (signIn a b).map (!·)
    | d, .list ys => if SeqAt.shaped d && SeqAt.shaped (.list ys) then some (!ys.any fun z => PyData.eqv z d) else none
    | d, .tuple ys => if SeqAt.shaped d && SeqAt.shaped (.tuple ys) then some (!ys.any fun z => PyData.eqv z d) else none
    | _, _ => none
def truD : P → Option Bool
  | .none => some false
  | .bool b => some b
  | .int i => some (i != 0)
  | .str x => if x.length ≤ line then some ((x.length : Int) != 0) else none
  | .list xs => some (!xs.isEmpty)
  | .tuple xs => some (!xs.isEmpty)
  | .dict _ => none
def idxD (x : P) (i : P) : Option P :=
  match x, i with
  | .list xs, .int i => L2.atI xs i
  | .tuple xs, .int i => L2.atI xs i
  | .str z, .int i => if z.length ≤ line then (L2.atI z.cps.toList i).map fun c => .str ⟨#[c]⟩ else none
  | _, _ => none
def cutD (xs : List P) (lo hi : Option Int) : List P :=
  (xs.drop (HT.sIx xs.length 0 lo)).take (HT.sIx xs.length xs.length hi - HT.sIx xs.length 0 lo)
def slcD (x : P) (lo hi : Option Int) : Option P :=
  match x with
  | .list xs => some (.list (cutD xs lo hi))
  | .tuple xs => some (.tuple (cutD xs lo hi))
  | _ => none
/-- a slice's part: left out (nil), or an int -/
def partE : IE → P → Option (Option Int)
  | .nil, _ => some none
  | _, .int i => some (some i)
  | _, _ => none
def revD : P → Option P
  | .list xs => some (.list xs.reverse)
  | .tuple xs => some (.tuple xs.reverse)
  | _ => none
def signs (z : Str) : List P := z.cps.toList.map fun c => .str ⟨#[c]⟩
/-- what a walk over a value yields -/
def itemsD : P → Option (List P)
  | .list xs => some xs
  | .tuple xs => some xs
  | .str z => some (signs z)
  | _ => none
def int62 (i : Int) : Bool := leN i 4611686018427387903
def rngUp (lo : Int) : Nat → List P
  | 0 => []
  | n + 1 => .int lo :: rngUp (lo + 1) n
def rngBy (lo c : Int) : Nat → List P
  | 0 => []
  | n + 1 => .int lo :: rngBy (lo + c) c n
def rngD : List P → Option (List P)
  | [.int j] => if int62 j then some (rngUp 0 j.toNat) else none
  | [.int i, .int j] => if int62 i && int62 j then some (rngUp i (j - i).toNat) else none
  | [.int i, .int j, .int (-1)] => if int62 i && int62 j then some (rngBy i (-1) (i - j).toNat) else none
  | _ => none
def enumFrom (k : Int) : List P → List P
  | [] => []
  | x :: xs => .tuple [.int k, x] :: enumFrom (k + 1) xs
def zipD : List P → List P → List P
  | x :: xs, y :: ys => .tuple [x, y] :: zipD xs ys
  | _, _ => []
def zipV : P → P → Option (List P)
  | .list xs, .list ys => some (zipD xs ys)
  | .tuple xs, .tuple ys => some (zipD xs ys)
  | _, _ => none
def enumV : P → Option (List P)
  | .list xs => some (enumFrom 0 xs)
  | _ => none
def intsOf : List P → Option (List Int)
  | [] => some []
  | .int i :: xs => (intsOf xs).map (i :: ·)
  | _ => none
def boolsOf : List P → Option (List Bool)
  | [] => some []
  | .bool b :: xs => (boolsOf xs).map (b :: ·)
  | _ => none
def allAlike (xs : List P) : Bool := xs.all fun x => xs.all fun y => PySem.W.alike x y
def sortable (xs : List P) : Bool := (xs.all fun x => match x with | .tuple (_ :: _) => true | _ => false) || (xs.all fun x => match x with | .none => false | .tuple _ => false | _ => true)
/-- insertion, stable -/
def insD (le : P → P → Bool) (x : P) : List P → List P
  | [] => [x]
  | y :: ys => if le x y then x :: y :: ys else y :: insD le x ys
def sortD (le : P → P → Bool) : List P → List P
  | [] => []
  | x :: xs => insD le x (sortD le xs)
def leD (x y : P) : Bool := !PySem.W.dataLt y x
def maxI : List Int → Option Int
  | [] => none
  | x :: xs => match maxI xs with
    | none => some x
    | some y => some (if y < x then x else y)
def minI : List Int → Option Int
  | [] => none
  | x :: xs => match minI xs with
    | none => some x
    | some y => some (if x < y then x else y)
def lenD : P → Option Int
  | .list xs => some xs.length
  | .tuple xs => some xs.length
  | .str z => if z.length ≤ line then some z.length else none
  | _ => none
def b2i (b : Bool) : Int := if b then 1 else 0
def fLen : List P → Option P
  | [x] => (lenD x).map .int
  | _ => none
def fAbs : List P → Option P
  | [.int i] => some (.int (if i < 0 then -i else i))
  | _ => none
def fInt : List P → Option P
  | [.int i] => some (.int i)
  | [.bool b] => some (.int (b2i b))
  | _ => none
def fBool : List P → Option P
  | [.bool b] => some (.bool b)
  | [.int i] => some (.bool (i != 0))
  | _ => none
def fTuple : List P → Option P
  | [.list xs] => some (.tuple xs)
  | [.tuple xs] => some (.tuple xs)
  | _ => none
def fList : List P → Option P
  | [.list xs] => some (.list xs)
  | [.tuple xs] => some (.list xs)
  | _ => none
def fSorted : List P → Option P
  | [.list xs] => if allAlike xs && sortable xs && decide (xs.length ≤ line) && xs.all SeqAt.shaped then some (.list (sortD leD xs)) else none
  | _ => none
def fSum : List P → Option P
  | [.list xs] => (intsOf xs).map fun ns => .int ns.sum
  | _ => none
def fMax : List P → Option P
  | [.list xs] => ((intsOf xs).bind maxI).map .int
  | [.tuple xs] => ((intsOf xs).bind maxI).map .int
  | [.int a, .int b] => some (.int (if b > a then b else a))
  | _ => none
def fMin : List P → Option P
  | [.list xs] => ((intsOf xs).bind minI).map .int
  | [.tuple xs] => ((intsOf xs).bind minI).map .int
  | [.int a, .int b] => some (.int (if b < a then b else a))
  | _ => none
def fAll : List P → Option P
  | [.list xs] => (boolsOf xs).map fun bs => .bool (bs.all id)
  | _ => none
def fAny : List P → Option P
  | [.list xs] => (boolsOf xs).map fun bs => .bool (bs.any id)
  | _ => none
def biD (b : Bi) : List P → Option P :=
  match b with
  | .len => fLen
  | .abs => fAbs
  | .int_ => fInt
  | .bool_ => fBool
  | .tuple_ => fTuple
  | .list_ => fList
  | .sorted => fSorted
  | .sum => fSum
  | .max => fMax
  | .min => fMin
  | .all => fAll
  | .any => fAny
  | _ => fun _ => none
def isiD (t : Ty) (x : P) : Option Bool :=
  match t with
  | .int_ => some (match x with | .int _ => true | .bool _ => true | _ => false)
  | .str_ => some (match x with | .str _ => true | _ => false)
  | .bool_ => some (match x with | .bool _ => true | _ => false)
  | .tuple_ => some (match x with | .tuple _ => true | _ => false)
  | .list_ => some (match x with | .list _ => true | _ => false)
  | .seq_ => some (match x with | .tuple _ => true | .list _ => true | _ => false)
  | .numstr => some (match x with | .bool _ => true | .str _ => true | _ => false)
def mOk (m : Mt) (x : P) : Bool :=
  match m, x with
  | .strip, .str _ => true
  | .index, .list _ => true
  | _, _ => false
def mthD (m : Mt) (x : P) (as : List P) : Option P :=
  match m, x, as with
  | .strip, .str a, [.str b] => if a.length ≤ line then some (.str (Txt.stripChars a b)) else none
  | .index, .list xs, [y] => if SeqAt.shaped (.list xs) && SeqAt.shaped y then (xs.findIdx? fun z => PyData.eqv z y).map fun j => .int (j : Nat) else none
  | _, _, _ => none

/-! ### environments -/
def getV (e : Env) (i : Nat) : Option P :=
  match e[i]? with
  | some (.v d) => some d
  | _ => none
def getO (e : Env) (i : Nat) : Option P :=
  match e[i]? with
  | some (.o d) => some d
  | _ => none
def wipe (e : Env) : List Nat → Env
  | [] => e
  | i :: is => (wipe e is).set i .no
def freeze (e : Env) : List Nat → Env
  | [] => e
  | i :: is => match getO (freeze e is) i with
    | some d => (freeze e is).set i (.v d)
    | none => freeze e is
/-- targets: values stored one by one -/
def asgn : Tg → P → Env → Option Env
  | .nm i, d, e => some (e.set i (.v d))
  | .tp t, d, e => match d with
    | .tuple xs => asgn t (.list xs) e
    | .list xs => asgn t (.list xs) e
    | _ => none
  | .nil, d, e => match d with
    | .list [] => some e
    | _ => none
  | .cons a b, d, e => match d with
    | .list (x :: xs) => match asgn a x e with
      | some e' => asgn b (.list xs) e'
      | none => none
    | _ => none
def argsOf : P → List P
  | .list xs => xs
  | _ => []
/-- values in another order -/
def kperm {α : Type} (pm : List Nat) (l : List α) : List α := pm.filterMap (l[·]?)
def boxOf : P → Option Bx
  | .list [.int a, .int b, .int c] => some (a, b, c)
  | _ => none
def b0 : Bx := (0, 0, 0)
def bxAt : Nat → Bx → Option Int
  | 0, b => some b.1
  | 1, b => some b.2.1
  | 2, b => some b.2.2
  | _, _ => none
def bxSet : Nat → Int → Bx → Option Bx
  | 0, n, b => some (n, b.2.1, b.2.2)
  | 1, n, b => some (b.1, n, b.2.2)
  | 2, n, b => some (b.1, b.2.1, n)
  | _, _, _ => none

/-- within a comprehension nothing may be raised -/
def R.noex {α : Type} (r : R α) : R α :=
  match r with
  | .ok a b => .ok a b
  | _ => .no
/-- a result without lists -/
def R.hd (r : R P) : R P :=
  match r with
  | .ok d b => if hard d then .ok d b else .no
  | .ex c none b => .ex c none b
  | .ex c (some d) b => if hard d then .ex c (some d) b else .no
  | .no => .no
/-- a walk that makes a list -/
def lcL (turn : P → Bx → R (List P)) : List P → Bx → R (List P)
  | [], b => .ok [] b
  | x :: xs, b => (turn x b).bind fun ys b1 => (lcL turn xs b1).bind fun zs b2 => .ok (ys ++ zs) b2
abbrev Phi := Nat → List P → Bx → R P
def ev (φ : Phi) : IE → Env → Bx → R P
  | .var i, e, b => R.ofO (getV e i) b
  | .ovar i, e, b => R.ofO (getO e i) b
  | .cst d, _, b => .ok d b
  | .glob d, _, b => .ok d b
  | .bin op x y, e, b => (ev φ x e b).bind fun d b1 => (ev φ y e b1).bind fun d' b2 => R.ofO (binD op d d') b2
  | .neg x, e, b => (ev φ x e b).bind fun d b1 => match d with
    | .int i => .ok (.int (-i)) b1
    | _ => .no
  | .not x, e, b => (ev φ x e b).bind fun d b1 => R.ofO ((truD d).map fun t => .bool (!t)) b1
  | .cmp op x y, e, b => (ev φ x e b).bind fun d b1 => (ev φ y e b1).bind fun d' b2 => R.ofO ((cmpD op d d').map .bool) b2
  | .chain o1 o2 x y z, e, b => (ev φ x e b).bind fun d b1 => (ev φ y e b1).bind fun d' b2 => match cmpD o1 d d' with
    | some true => (ev φ z e b2).bind fun d'' b3 => R.ofO ((cmpD o2 d' d'').map .bool) b3
    | some false => .ok (.bool false) b2
    | none => .no
  | .chain3 o1 o2 o3 x y z w, e, b => (ev φ x e b).bind fun d b1 => (ev φ y e b1).bind fun d' b2 => match cmpD o1 d d' with
    | some true => (ev φ z e b2).bind fun d'' b3 => match cmpD o2 d' d'' with
      | some true => (ev φ w e b3).bind fun d3 b4 => R.ofO ((cmpD o3 d'' d3).map .bool) b4
      | some false => .ok (.bool false) b3
      | none => .no
    | some false => .ok (.bool false) b2
    | none => .no
  | .bget j, _, b => R.ofO ((bxAt j b).map .int) b
  | .and x y, e, b => (ev φ x e b).bind fun d b1 => match truD d with
    | some true => ev φ y e b1
    | some false => .ok d b1
    | none => .no
  | .or x y, e, b => (ev φ x e b).bind fun d b1 => match truD d with
    | some false => ev φ y e b1
    | some true => .ok d b1
    | none => .no
  | .ite c x y, e, b => (ev φ c e b).bind fun d b1 => match truD d with
    | some true => ev φ x e b1
    | some false => ev φ y e b1
    | none => .no
  | .nil, _, b => .ok (.list []) b
  | .cons x xs, e, b => (ev φ x e b).bind fun d b1 => (ev φ xs e b1).bind fun ds b2 => .ok (.list (d :: argsOf ds)) b2
  | .star x xs, e, b => (ev φ x e b).bind fun d b1 => match d with
    | .list ys => (ev φ xs e b1).bind fun ds b2 => .ok (.list (ys ++ argsOf ds)) b2
    | .tuple ys => (ev φ xs e b1).bind fun ds b2 => .ok (.list (ys ++ argsOf ds)) b2
    | _ => .no
  | .tup xs, e, b => (ev φ xs e b).bind fun ds b1 => if (argsOf ds).length ≤ line then .ok (.tuple (argsOf ds)) b1 else .no
  | .lst xs, e, b => (ev φ xs e b).bind fun ds b1 => if (argsOf ds).length ≤ line then .ok (.list (argsOf ds)) b1 else .no
  | .idx x i, e, b => (ev φ x e b).bind fun d b1 => (ev φ i e b1).bind fun d' b2 => R.ofO (idxD d d') b2
  | .slc x lo hi, e, b => (ev φ x e b).bind fun d b1 => (ev φ lo e b1).bind fun l b2 => match partE lo l with
    | none => .no
    | some l' => (ev φ hi e b2).bind fun h b3 => match partE hi h with
      | none => .no
      | some h' => R.ofO (slcD d l' h') b3
  | .rev x, e, b => (ev φ x e b).bind fun d b1 => R.ofO (revD d) b1
  | .lc own elt tg it ifs, e, b => (ev φ it e b).bind fun d b1 => match itemsD d with
    | none => .no
    | some xs => if xs.length ≤ line then (lcL (fun x b => R.noex (match asgn tg x (wipe e own) with
        | none => .no
        | some e' => (ev φ ifs e' b).bind fun t b2 => match truD t with
          | some true => (ev φ elt e' b2).bind fun y b3 => .ok [y] b3
          | some false => .ok [] b2
          | none => .no)) xs b1).bind fun ys b2 => .ok (.list ys) b2 else .no
  | .lc2 own own2 elt tg it ifs tg2 it2 ifs2, e, b => (ev φ it e b).bind fun d b1 => match itemsD d with
    | none => .no
    | some xs => (lcL (fun x b => R.noex (match asgn tg x (wipe e own) with
        | none => .no
        | some e' => (ev φ ifs e' b).bind fun t b2 => match truD t with
          | some true => (ev φ it2 e' b2).bind fun d2 b3 => match itemsD d2 with
            | none => .no
            | some zs => lcL (fun z b => match asgn tg2 z (wipe e' own2) with
              | none => .no
              | some e'' => (ev φ ifs2 e'' b).bind fun t b2 => match truD t with
                | some true => (ev φ elt e'' b2).bind fun y b3 => .ok [y] b3
                | some false => .ok [] b2
                | none => .no) zs b3
          | some false => .ok [] b2
          | none => .no)) xs b1).bind fun ys b2 => if ys.length ≤ line then .ok (.list ys) b2 else .no
  | .call f as, e, b => (ev φ as e b).bind fun ds b1 => match φ f (argsOf ds) b0 with
    | .ok d _ => .ok d b1
    | .ex c d _ => .ex c d b1
    | .no => .no
  | .callK f pm as ks, e, b => (ev φ as e b).bind fun ds b1 => (ev φ ks e b1).bind fun ds2 b2 => match φ f (kperm pm (argsOf ds ++ argsOf ds2)) b0 with
    | .ok d _ => .ok d b2
    | .ex c d _ => .ex c d b2
    | .no => .no
  | .callB f as, e, b => (ev φ as e b).bind fun ds b1 => φ f (argsOf ds) b1
  | .callX f a as, e, b => (ev φ a e b).bind fun d b1 => match boxOf d with
    | none => .no
    | some bx => (ev φ as e b1).bind fun ds b2 => match φ f (argsOf ds) bx with
      | .ok d _ => .ok d b2
      | .ex c d _ => .ex c d b2
      | .no => .no
  | .bi p as, e, b => (ev φ as e b).bind fun ds b1 => R.ofO (biD p (argsOf ds)) b1
  | .isi t a, e, b => (ev φ a e b).bind fun d b1 => R.ofO ((isiD t d).map .bool) b1
  | .mth m a as, e, b => (ev φ a e b).bind fun d b1 => if mOk m d then (ev φ as e b1).bind fun ds b2 => R.ofO (mthD m d (argsOf ds)) b2 else .no
  | .rng as, e, b => (ev φ as e b).bind fun ds b1 => R.ofO ((rngD (argsOf ds)).map .list) b1
  | .trg as, e, b => (ev φ as e b).bind fun ds b1 => match rngD (argsOf ds) with
    | some xs => if xs.length ≤ line then .ok (.tuple xs) b1 else .no
    | none => .no
  | .lrg as, e, b => (ev φ as e b).bind fun ds b1 => match rngD (argsOf ds) with
    | some xs => if xs.length ≤ line then .ok (.list xs) b1 else .no
    | none => .no
  | .enm a, e, b => (ev φ a e b).bind fun d b1 => R.ofO ((enumV d).map .list) b1
  | .zip x y, e, b => (ev φ x e b).bind fun d b1 => (ev φ y e b1).bind fun d' b2 => R.ofO ((zipV d d').map .list) b2
  | .tmp is a, e, b => R.hd (ev φ a (freeze e is) b)

/-! ### statements -/
def Out.bind (r : Out) (f : Env → Bx → Out) : Out :=
  match r with
  | .nx e b => f e b
  | o => o
def R.out {α : Type} (r : R α) (e : Env) (f : α → Bx → Out) : Out :=
  match r with
  | .ok a b => f a b
  | .ex c d b => .xx e c d b
  | .no => .no
def Out.ofO (o : Option Env) (b : Bx) : Out :=
  match o with
  | some e => .nx e b
  | none => .no
def forL (body : P → Env → Bx → Out) : List P → Env → Bx → Out
  | [], e, b => .nx e b
  | x :: xs, e, b => (body x e b).bind fun e1 b1 => forL body xs e1 b1
def whileL (test : Env → Bx → R Bool) (body : Env → Bx → Out) : Nat → Env → Bx → Out
  | 0, _, _ => .no
  | n + 1, e, b => (test e b).out e fun t b1 => if t then (body e b1).bind fun e2 b2 => whileL test body n e2 b2 else .nx e b1
def fuel : Nat := 1000000
/-- a fresh list becomes the def's own, if that is asked for -/
def mkSl (ow : Bool) (d : P) : Sl := if ow then (match d with | .list xs => .o (.list xs) | d => .v d) else .v d
def tru (φ : Phi) (c : IE) (e : Env) (b : Bx) : R Bool := (ev φ c e b).bind fun d b1 => R.ofO (truD d) b1
def setAt (d k v : P) : Option P :=
  match d, k with
  | .list xs, .int i => match L2.ixN xs.length i with
    | some j => some (.list (xs.set j v))
    | none => none
  | _, _ => none
def augF : Op → Int → Int → Int
  | .sub, m, n => m - n
  | _, m, n => m + n
def ex (φ : Phi) : IS → Env → Bx → Out
  | .nop, e, b => .nx e b
  | .seq x y, e, b => (ex φ x e b).bind fun e1 b1 => ex φ y e1 b1
  | .set i ow x, e, b => (ev φ x e b).out e fun d b1 => .nx (e.set i (mkSl ow d)) b1
  | .par2 i oi j oj x y, e, b => (ev φ x e b).out e fun d b1 => (ev φ y e b1).out e fun d2 b2 => .nx ((e.set i (mkSl oi d)).set j (mkSl oj d2)) b2
  | .par3 i oi j oj l ol x y z, e, b => (ev φ x e b).out e fun d b1 => (ev φ y e b1).out e fun d2 b2 => (ev φ z e b2).out e fun d3 b3 => .nx (((e.set i (mkSl oi d)).set j (mkSl oj d2)).set l (mkSl ol d3)) b3
  | .sett tg x, e, b => (ev φ x e b).out e fun d b1 => Out.ofO (asgn tg d e) b1
  | .app i x, e, b => match getO e i with
    | some (.list xs) => (ev φ x e b).out e fun d b1 => if xs.length < line then .nx (e.set i (.o (.list (xs ++ [d])))) b1 else .no
    | _ => .no
  | .ext i x, e, b => match getO e i with
    | some (.list xs) => (ev φ x e b).out e fun d b1 => match d with
      | .list ys => if xs.length + ys.length ≤ line then .nx (e.set i (.o (.list (xs ++ ys)))) b1 else .no
      | _ => .no
    | _ => .no
  | .pop _ _ _, _, _ => .no
  | .stix i k x, e, b => match getO e i with
    | some (.list xs) => (ev φ x e b).out e fun d b1 => (ev φ k e b1).out e fun kd b2 => match setAt (.list xs) kd d with
      | some o' => .nx (e.set i (.o o')) b2
      | none => .no
    | _ => .no
  | .bset j x, e, b => (ev φ x e b).out e fun d b1 => match d with
    | .int n => match bxSet j n b1 with
      | some b2 => .nx e b2
      | none => .no
    | _ => .no
  | .augx i k op x, e, b => (ev φ k e b).out e fun kd b1 => match getO e i with
    | some o => match idxD o kd with
      | some old => (ev φ x e b1).out e fun d b2 => match binD op old d with
        | some new => match setAt o kd new with
          | some o' => .nx (e.set i (.o o')) b2
          | none => .no
        | none => .no
      | none => .no
    | none => .no
  | .aug i op x, e, b => match getV e i with
    | some (.int m) => (ev φ x e b).out e fun d b1 => match d with
      | .int n => .nx (e.set i (.v (.int (augF op m n)))) b1
      | _ => .no
    | _ => .no
  | .frz i, e, b => .nx (freeze e [i]) b
  | .forr tg it body, e, b => (ev φ it e b).out e fun d b1 => match itemsD d with
    | none => .no
    | some xs => forL (fun x e b => match asgn tg x e with
      | none => .no
      | some e' => ex φ body e' b) xs e b1
  | .whil c body, e, b => whileL (fun e b => tru φ c e b) (fun e b => ex φ body e b) fuel e b
  | .iff c x y, e, b => (tru φ c e b).out e fun t b1 => if t then ex φ x e b1 else ex φ y e b1
  | .ret x, e, b => (ev φ x e b).out e fun d b1 => .rt d b1
  | .retn, _, b => .rt .none b
  | .drop x, e, b => (ev φ x e b).out e fun _ b1 => .nx e b1
  | .raise c x, e, b => match x with
    | none => .xx e c none b
    | some x => (ev φ x e b).out e fun d b1 => .xx e c (some d) b1

/-! ### defs -/
structure Fn where
  /-- the parameters behind the source of draws -/
  ps : Nat
  bx : Bool
  fr : Bool
  slots : Nat
  body : IS
inductive Fd where
  | code (f : Fn)
  | prim (g : List P → Bx → R P)
def startE (bx : Bool) (n : Nat) (as : List P) : Env := (if bx then [Sl.no] else []) ++ as.map Sl.v ++ List.replicate (n - as.length - (if bx then 1 else 0)) .no
def run (φ : Phi) (f : Fn) (as : List P) (b : Bx) : R P :=
  if as.length = f.ps then
    match ex φ f.body (startE f.bx f.slots as) b with
    | .nx _ b1 => .ok .none b1
    | .rt d b1 => .ok d b1
    | .xx _ c d b1 => .ex c d b1
    | .no => .no
  else .no
def fnN (T : Nat → Option Fd) : Nat → Phi
  | 0, _, _, _ => .no
  | k + 1, f, as, b => match T f with
    | some (.code f) => run (fnN T k) f as b
    | some (.prim g) => g as b
    | none => .no
end Dv
/-! text DQ -/
set_option Elab.async false
set_option linter.all false
set_option maxRecDepth 100000
set_option maxHeartbeats 4000000
namespace Dv
open PySem

/-! ### the defs of a text -/
structure DefD where
  x : Str
  st : Stmt
  N : List Str
  ps : List Str
  fn : Fn
def tblOf (DL : List DefD) : Nat → Option Fd := fun f => (DL[f]?).map fun d => .code d.fn
def fnsOf (DL : List DefD) : List (Str × Bool × Bool × Nat) := DL.map fun d => (d.x, d.fn.bx, d.fn.fr, d.ps.length)
structure Txt' where
  DL : List DefD
  blt : List Str
  con : List (Str × P)
  kws : List (Nat × Nat × List Str × List Nat)
/-- the law's last statement -/
def lawRet (right box : Nat) : IS := .seq (.ret (.bi .all (.cons (.lc [2] (.callX right (.call box (.cons (.var 1) (.cons (.var 2) .nil))) .nil) (.nm 2) (.rng (.cons (.bi .len (.cons (.var 1) .nil)) .nil)) (.cst (.bool true))) .nil))) .nop
/-- the def of law, the places of its callees -/
structure LawD where
  st : Stmt
  s : Str
  c : Str
  k : Str
  top : Int
  hand : Nat
  box : Nat
  right : Nat
def okTrue (r : R P) : Bool := match r with
  | .ok (.bool true) _ => true
  | _ => false
theorem okTrue_of {r : R P} (h : okTrue r = true) : ∃ b, r = .ok (.bool true) b := by
  unfold okTrue at h
  split at h
  · exact ⟨_, rfl⟩
  · cases h
end Dv
/-! text KA_k58 -/
set_option Elab.async false
set_option linter.all false
set_option maxRecDepth 100000
set_option maxHeartbeats 4000000
namespace Lw
open PySem PySem.Spec L2 Dv
def topS (i : Nat) : Stmt := PySem.Challenge.pw_nettingpots_k58_pairs_that_may_not_lie_t.main.body.getD i (.Pass ⟨0, 0, 0, 0⟩)
abbrev s0 : Stmt := topS 1
/-- is_number -/
def y0 : IS := .seq (.ret (.and (.isi .int_ (.var 0)) (.not (.isi .bool_ (.var 0))))) (.nop)
def f0 : Fn := { ps := 1, bx := false, fr := false, slots := 1, body := y0 }
def d0 : DefD := { x := "is_number", st := s0, N := ["thing"], ps := ["thing"], fn := f0 }
abbrev s1 : Stmt := topS 2
/-- rises -/
def y1 : IS := .seq (.ret (.bi .all (.cons (.lc [1, 2] (.cmp .lt (.var 1) (.var 2)) (.tp (.cons (.nm 1) (.cons (.nm 2) (.nil)))) (.zip (.var 0) (.slc (.var 0) (.cst (.int 1)) (.nil))) (.cst (.bool true))) (.nil)))) (.nop)
def f1 : Fn := { ps := 1, bx := false, fr := false, slots := 3, body := y1 }
def d1 : DefD := { x := "rises", st := s1, N := ["row", "one", "other"], ps := ["row"], fn := f1 }
abbrev s2 : Stmt := topS 5
/-- is_bar -/
def y2 : IS := .seq (.iff (.or (.not (.isi .tuple_ (.var 1))) (.or (.cmp .ne (.bi .len (.cons (.var 1) (.nil))) (.glob (.int 2))) (.not (.bi .all (.cons (.lc [2] (.call 0 (.cons (.var 2) (.nil))) (.nm 2) (.var 1) (.cst (.bool true))) (.nil)))))) (.seq (.ret (.cst (.bool false))) (.nop)) (.nop)) (.seq (.ret (.chain3 .le .lt .lt (.cst (.int 0)) (.idx (.var 1) (.cst (.int 0))) (.idx (.var 1) (.cst (.int 1))) (.bi .len (.cons (.var 0) (.nil))))) (.nop))
def f2 : Fn := { ps := 2, bx := false, fr := false, slots := 3, body := y2 }
def d2 : DefD := { x := "is_bar", st := s2, N := ["debts", "thing", "place"], ps := ["debts", "thing"], fn := f2 }
abbrev s3 : Stmt := topS 6
/-- is_bars -/
def y3 : IS := .seq (.ret (.and (.isi .tuple_ (.var 1)) (.and (.bi .all (.cons (.lc [2] (.call 2 (.cons (.var 0) (.cons (.var 2) (.nil)))) (.nm 2) (.var 1) (.cst (.bool true))) (.nil))) (.call 1 (.cons (.var 1) (.nil)))))) (.nop)
def f3 : Fn := { ps := 2, bx := false, fr := false, slots := 3, body := y3 }
def d3 : DefD := { x := "is_bars", st := s3, N := ["debts", "thing", "bar"], ps := ["debts", "thing"], fn := f3 }
abbrev s4 : Stmt := topS 7
/-- first_barred -/
def y4 : IS := .seq (.set 3 false (.lc [4, 5] (.tup (.cons (.var 4) (.cons (.var 5) (.nil)))) (.tp (.cons (.nm 4) (.cons (.nm 5) (.nil)))) (.var 1) (.cmp .eq (.idx (.var 2) (.var 4)) (.idx (.var 2) (.var 5))))) (.seq (.ret (.ite (.cmp .gt (.bi .len (.cons (.var 3) (.nil))) (.cst (.int 0))) (.idx (.var 3) (.cst (.int 0))) (.cst .none))) (.nop))
def f4 : Fn := { ps := 3, bx := false, fr := false, slots := 6, body := y4 }
def d4 : DefD := { x := "first_barred", st := s4, N := ["debts", "bars", "book", "found", "place", "later"], ps := ["debts", "bars", "book"], fn := f4 }
abbrev s5 : Stmt := topS 8
/-- is_let -/
def y5 : IS := .seq (.ret (.cmp .is_ (.call 4 (.cons (.var 0) (.cons (.var 1) (.cons (.var 2) (.nil))))) (.cst .none))) (.nop)
def f5 : Fn := { ps := 3, bx := false, fr := false, slots := 3, body := y5 }
def d5 : DefD := { x := "is_let", st := s5, N := ["debts", "bars", "book"], ps := ["debts", "bars", "book"], fn := f5 }
abbrev s6 : Stmt := topS 10
/-- _law_box -/
def y6 : IS := .seq (.set 2 false (.ite (.cmp .lt (.var 1) (.bi .len (.cons (.var 0) (.nil)))) (.idx (.var 0) (.var 1)) (.cst (.int 0)))) (.seq (.ret (.lst (.cons (.bin .mul (.bi .abs (.cons (.var 2) (.nil))) (.bi .int_ (.cons (.cmp .ge (.bi .abs (.cons (.var 2) (.nil))) (.bin .pow (.cst (.int 10)) (.cst (.int 18)))) (.nil)))) (.cons (.bin .add (.bin .add (.bin .mod (.bi .int_ (.cons (.var 2) (.nil))) (.cst (.int 2305843009213693951))) (.bin .mul (.cst (.int 39373)) (.var 1))) (.cst (.int 1054358))) (.cons (.cst (.int 0)) (.nil)))))) (.nop))
def f6 : Fn := { ps := 2, bx := false, fr := true, slots := 3, body := y6 }
def d6 : DefD := { x := "_law_box", st := s6, N := ["_law_script", "_law_k", "_law_cell"], ps := ["_law_script", "_law_k"], fn := f6 }
abbrev s7 : Stmt := topS 11
/-- _law_take -/
def y7 : IS := .seq (.iff (.cmp .gt (.bget 0) (.cst (.int 0))) (.seq (.set 5 false (.bin .mod (.bi .int_ (.cons (.bget 0) (.nil))) (.var 1))) (.seq (.bset 0 (.bin .fdiv (.bget 0) (.var 1))) (.seq (.ret (.var 5)) (.nop)))) (.nop)) (.seq (.bset 2 (.bin .add (.bget 2) (.cst (.int 1)))) (.seq (.set 2 false (.bin .mod (.bi .int_ (.cons (.bin .mul (.bin .add (.bget 1) (.bin .mul (.cst (.int 48271)) (.bget 2))) (.bin .add (.cst (.int 39373)) (.bget 2))) (.nil))) (.cst (.int 2147483647)))) (.seq (.set 3 false (.bin .add (.bin .mod (.bi .int_ (.cons (.var 2) (.nil))) (.cst (.int 40009))) (.cst (.int 7)))) (.seq (.set 4 false (.bin .mod (.bi .int_ (.cons (.bin .mul (.bin .add (.bin .add (.var 2) (.bget 2)) (.bin .fdiv (.bget 1) (.cst (.int 1000003)))) (.var 3)) (.nil))) (.cst (.int 2147483629)))) (.seq (.ret (.bin .mod (.bi .int_ (.cons (.bin .fdiv (.bin .mod (.bi .int_ (.cons (.bin .add (.bin .mul (.var 4) (.cst (.int 48271))) (.var 2)) (.nil))) (.cst (.int 2147483587))) (.cst (.int 64))) (.nil))) (.var 1))) (.nop))))))
def f7 : Fn := { ps := 1, bx := true, fr := false, slots := 6, body := y7 }
def d7 : DefD := { x := "_law_take", st := s7, N := ["_law_box_here", "_law_below_so", "_law_once", "_law_far", "_law_twice", "_law_drawn"], ps := ["_law_box_here", "_law_below_so"], fn := f7 }
abbrev s8 : Stmt := topS 13
/-- _law_same -/
def y8 : IS := .seq (.iff (.isi .seq_ (.var 1)) (.seq (.iff (.or (.cmp .ne (.isi .list_ (.var 0)) (.isi .list_ (.var 1))) (.cmp .ne (.isi .tuple_ (.var 0)) (.isi .tuple_ (.var 1)))) (.seq (.ret (.cst (.bool false))) (.nop)) (.nop)) (.seq (.ret (.and (.cmp .eq (.bi .len (.cons (.var 0) (.nil))) (.bi .len (.cons (.var 1) (.nil)))) (.bi .all (.cons (.lc [2, 3] (.call 8 (.cons (.var 2) (.cons (.var 3) (.nil)))) (.tp (.cons (.nm 2) (.cons (.nm 3) (.nil)))) (.zip (.var 0) (.var 1)) (.cst (.bool true))) (.nil))))) (.nop))) (.nop)) (.seq (.iff (.or (.cmp .is_ (.var 1) (.cst .none)) (.isi .numstr (.var 1))) (.seq (.ret (.and (.cmp .eq (.var 0) (.var 1)) (.and (.cmp .eq (.isi .bool_ (.var 0)) (.isi .bool_ (.var 1))) (.cmp .eq (.cmp .is_ (.var 0) (.cst .none)) (.cmp .is_ (.var 1) (.cst .none)))))) (.nop)) (.nop)) (.seq (.ret (.and (.isi .int_ (.var 0)) (.and (.not (.isi .bool_ (.var 0))) (.cmp .eq (.var 0) (.var 1))))) (.nop)))
def f8 : Fn := { ps := 2, bx := false, fr := false, slots := 4, body := y8 }
def d8 : DefD := { x := "_law_same", st := s8, N := ["_law_got", "_law_due", "_law_mine", "_law_its"], ps := ["_law_got", "_law_due"], fn := f8 }
abbrev s9 : Stmt := topS 14
/-- _law_lists -/
def y9 : IS := .seq (.ret (.ite (.isi .seq_ (.var 0)) (.lc [1] (.call 9 (.cons (.var 1) (.nil))) (.nm 1) (.var 0) (.cst (.bool true))) (.var 0))) (.nop)
def f9 : Fn := { ps := 1, bx := false, fr := false, slots := 2, body := y9 }
def d9 : DefD := { x := "_law_lists", st := s9, N := ["_law_matter_so", "_law_bit"], ps := ["_law_matter_so"], fn := f9 }
abbrev s10 : Stmt := topS 15
/-- _law_of -/
def y10 : IS := .seq (.ret (.idx (.var 1) (.callB 7 (.cons (.bi .len (.cons (.var 1) (.nil))) (.nil))))) (.nop)
def f10 : Fn := { ps := 1, bx := true, fr := false, slots := 2, body := y10 }
def d10 : DefD := { x := "_law_of", st := s10, N := ["_law_box_here", "_law_pool_so"], ps := ["_law_box_here", "_law_pool_so"], fn := f10 }
abbrev s11 : Stmt := topS 16
/-- _law_ties -/
def y11 : IS := .seq (.set 2 false (.slc (.lst (.cons (.cst (.str "a")) (.cons (.cst (.str "ab")) (.cons (.cst (.str "b")) (.cons (.cst (.str "x")) (.cons (.cst (.str "zz")) (.nil))))))) (.nil) (.bin .add (.cst (.int 2)) (.callB 7 (.cons (.cst (.int 4)) (.nil)))))) (.seq (.set 3 true (.lst (.nil))) (.seq (.forr (.nm 4) (.rng (.cons (.callB 7 (.cons (.bin .add (.var 1) (.cst (.int 1))) (.nil))) (.nil))) (.seq (.set 5 false (.callB 7 (.cons (.bi .len (.cons (.var 2) (.nil))) (.nil)))) (.seq (.app 3 (.tup (.cons (.idx (.var 2) (.var 5)) (.cons (.idx (.var 2) (.bin .mod (.bi .int_ (.cons (.bin .add (.bin .add (.var 5) (.cst (.int 1))) (.callB 7 (.cons (.bin .sub (.bi .len (.cons (.var 2) (.nil))) (.cst (.int 1))) (.nil)))) (.nil))) (.bi .len (.cons (.var 2) (.nil))))) (.nil))))) (.nop)))) (.seq (.ret (.bi .tuple_ (.cons (.ovar 3) (.nil)))) (.nop))))
def f11 : Fn := { ps := 1, bx := true, fr := false, slots := 6, body := y11 }
def d11 : DefD := { x := "_law_ties", st := s11, N := ["_law_box_here", "_law_most_so", "_law_tags_so", "_law_found", "_law_turn", "_law_k"], ps := ["_law_box_here", "_law_most_so"], fn := f11 }
abbrev s12 : Stmt := topS 17
/-- _law_locks -/
def y12 : IS := .seq (.set 2 true (.lst (.nil))) (.seq (.forr (.nm 3) (.rng (.cons (.var 1) (.nil))) (.seq (.forr (.nm 4) (.rng (.cons (.bin .add (.var 3) (.cst (.int 1))) (.cons (.var 1) (.nil)))) (.seq (.iff (.cmp .eq (.callB 7 (.cons (.cst (.int 4)) (.nil))) (.cst (.int 0))) (.seq (.app 2 (.tup (.cons (.var 3) (.cons (.var 4) (.nil))))) (.nop)) (.nop)) (.nop))) (.nop))) (.seq (.ret (.bi .tuple_ (.cons (.ovar 2) (.nil)))) (.nop)))
def f12 : Fn := { ps := 1, bx := true, fr := false, slots := 5, body := y12 }
def d12 : DefD := { x := "_law_locks", st := s12, N := ["_law_box_here", "_law_many_so", "_law_found", "_law_j", "_law_k"], ps := ["_law_box_here", "_law_many_so"], fn := f12 }
abbrev s13 : Stmt := topS 18
/-- _law_all -/
def y13 : IS := .seq (.set 1 false (.lst (.cons (.tup (.nil)) (.nil)))) (.seq (.forr (.nm 2) (.rng (.cons (.var 0) (.nil))) (.seq (.set 3 false (.lst (.nil))) (.seq (.forr (.nm 4) (.var 1) (.seq (.set 3 false (.bin .add (.var 3) (.lc [5] (.bin .add (.var 4) (.tup (.cons (.var 5) (.nil)))) (.nm 5) (.rng (.cons (.bin .add (.bi .max (.cons (.bin .add (.var 4) (.tup (.cons (.neg (.cst (.int 1))) (.nil)))) (.nil))) (.cst (.int 2))) (.nil))) (.cst (.bool true))))) (.nop))) (.seq (.set 1 false (.var 3)) (.nop))))) (.seq (.ret (.var 1)) (.nop)))
def f13 : Fn := { ps := 1, bx := false, fr := false, slots := 6, body := y13 }
def d13 : DefD := { x := "_law_all", st := s13, N := ["_law_many_so", "_law_found", "_law_turn", "_law_later", "_law_row_so", "_law_k"], ps := ["_law_many_so"], fn := f13 }
abbrev s14 : Stmt := topS 19
/-- _law_least -/
def y14 : IS := .seq (.set 2 false (.lc [3] (.var 3) (.nm 3) (.var 0) (.cmp .eq (.idx (.var 1) (.idx (.var 3) (.cst (.int 0)))) (.idx (.var 1) (.idx (.var 3) (.cst (.int 1))))))) (.seq (.ret (.ite (.cmp .ne (.var 2) (.lst (.nil))) (.idx (.var 2) (.cst (.int 0))) (.cst .none))) (.nop))
def f14 : Fn := { ps := 2, bx := false, fr := false, slots := 4, body := y14 }
def d14 : DefD := { x := "_law_least", st := s14, N := ["_law_locks_so", "_law_shelf_so", "_law_found", "_law_own"], ps := ["_law_locks_so", "_law_shelf_so"], fn := f14 }
abbrev s15 : Stmt := topS 20
/-- _law_is_number -/
def y15 : IS := .seq (.ret (.and (.isi .int_ (.var 0)) (.not (.isi .bool_ (.var 0))))) (.nop)
def f15 : Fn := { ps := 1, bx := false, fr := false, slots := 1, body := y15 }
def d15 : DefD := { x := "_law_is_number", st := s15, N := ["_law_matter_so"], ps := ["_law_matter_so"], fn := f15 }
abbrev s16 : Stmt := topS 21
/-- _law_are -/
def y16 : IS := .seq (.iff (.not (.isi .tuple_ (.var 1))) (.seq (.ret (.cst (.bool false))) (.nop)) (.nop)) (.seq (.forr (.nm 2) (.var 1) (.seq (.iff (.or (.not (.isi .tuple_ (.var 2))) (.or (.cmp .ne (.bi .len (.cons (.var 2) (.nil))) (.cst (.int 2))) (.or (.not (.call 15 (.cons (.idx (.var 2) (.cst (.int 0))) (.nil)))) (.not (.call 15 (.cons (.idx (.var 2) (.cst (.int 1))) (.nil))))))) (.seq (.ret (.cst (.bool false))) (.nop)) (.nop)) (.seq (.iff (.not (.chain3 .le .lt .lt (.cst (.int 0)) (.idx (.var 2) (.cst (.int 0))) (.idx (.var 2) (.cst (.int 1))) (.var 0))) (.seq (.ret (.cst (.bool false))) (.nop)) (.nop)) (.nop)))) (.seq (.ret (.cmp .eq (.lc [3] (.var 3) (.nm 3) (.rng (.cons (.cst (.int 1)) (.cons (.bi .len (.cons (.var 1) (.nil))) (.nil)))) (.cmp .ge (.idx (.var 1) (.bin .sub (.var 3) (.cst (.int 1)))) (.idx (.var 1) (.var 3)))) (.lst (.nil)))) (.nop)))
def f16 : Fn := { ps := 2, bx := false, fr := false, slots := 4, body := y16 }
def d16 : DefD := { x := "_law_are", st := s16, N := ["_law_many_so", "_law_matter_so", "_law_own", "_law_k"], ps := ["_law_many_so", "_law_matter_so"], fn := f16 }
abbrev s17 : Stmt := topS 22
/-- _law_bent -/
def y17 : IS := .seq (.par2 3 false 4 true (.callB 7 (.cons (.cst (.int 8)) (.nil))) (.bi .list_ (.cons (.var 1) (.nil)))) (.seq (.set 5 false (.callB 10 (.cons (.lst (.cons (.cst (.int 0)) (.cons (.neg (.cst (.int 1))) (.cons (.var 2) (.cons (.cst (.bool true)) (.cons (.cst .none) (.cons (.cst (.str "0")) (.cons (.tup (.nil)) (.cons (.cst (.int 1)) (.nil)))))))))) (.nil)))) (.seq (.iff (.cmp .eq (.var 3) (.cst (.int 0))) (.seq (.frz 4) (.seq (.ret (.var 4)) (.nop))) (.nop)) (.seq (.iff (.or (.cmp .eq (.ovar 4) (.lst (.nil))) (.cmp .eq (.var 3) (.cst (.int 1)))) (.seq (.ret (.bi .tuple_ (.cons (.bin .add (.ovar 4) (.lst (.cons (.tup (.cons (.cst (.int 0)) (.cons (.var 5) (.nil)))) (.nil)))) (.nil)))) (.nop)) (.nop)) (.seq (.set 6 false (.callB 7 (.cons (.bi .len (.cons (.ovar 4) (.nil))) (.nil)))) (.seq (.iff (.cmp .eq (.var 3) (.cst (.int 2))) (.seq (.ret (.bi .tuple_ (.cons (.bin .add (.ovar 4) (.slc (.ovar 4) (.nil) (.cst (.int 1)))) (.nil)))) (.nop)) (.nop)) (.seq (.iff (.cmp .eq (.var 3) (.cst (.int 3))) (.seq (.ret (.bi .tuple_ (.cons (.rev (.ovar 4)) (.nil)))) (.nop)) (.nop)) (.seq (.iff (.cmp .eq (.var 3) (.cst (.int 4))) (.seq (.stix 4 (.var 6) (.rev (.idx (.ovar 4) (.var 6)))) (.nop)) (.seq (.iff (.cmp .eq (.var 3) (.cst (.int 5))) (.seq (.stix 4 (.var 6) (.tup (.cons (.idx (.idx (.ovar 4) (.var 6)) (.cst (.int 0))) (.cons (.var 5) (.nil))))) (.nop)) (.seq (.iff (.cmp .eq (.var 3) (.cst (.int 6))) (.seq (.stix 4 (.var 6) (.bi .list_ (.cons (.idx (.ovar 4) (.var 6)) (.nil)))) (.nop)) (.seq (.stix 4 (.var 6) (.bin .add (.idx (.ovar 4) (.var 6)) (.tup (.cons (.var 5) (.nil))))) (.nop))) (.nop))) (.nop))) (.seq (.ret (.bi .tuple_ (.cons (.ovar 4) (.nil)))) (.nop)))))))))
def f17 : Fn := { ps := 2, bx := true, fr := false, slots := 7, body := y17 }
def d17 : DefD := { x := "_law_bent", st := s17, N := ["_law_box_here", "_law_locks_so", "_law_many_so", "_law_sort_so", "_law_rest_so", "_law_odd_so", "_law_k"], ps := ["_law_box_here", "_law_locks_so", "_law_many_so"], fn := f17 }
abbrev s18 : Stmt := topS 23
/-- _law_by_hand_right -/
def y18 : IS := .seq (.sett (.tp (.cons (.nm 0) (.cons (.nm 1) (.nil)))) (.tup (.cons (.tup (.cons (.tup (.cons (.cst (.str "a")) (.cons (.cst (.str "b")) (.nil)))) (.cons (.tup (.cons (.cst (.str "b")) (.cons (.cst (.str "c")) (.nil)))) (.cons (.tup (.cons (.cst (.str "c")) (.cons (.cst (.str "d")) (.nil)))) (.nil))))) (.cons (.bin .mul (.tup (.cons (.tup (.cons (.cst (.str "a")) (.cons (.cst (.str "b")) (.nil)))) (.cons (.tup (.cons (.cst (.str "b")) (.cons (.cst (.str "a")) (.nil)))) (.nil)))) (.cst (.int 4))) (.nil))))) (.seq (.set 2 false (.lst (.nil))) (.seq (.forr (.nm 3) (.rng (.cons (.cst (.int 8)) (.nil))) (.seq (.set 2 false (.bin .add (.var 2) (.lc [10] (.tup (.cons (.var 3) (.cons (.var 10) (.nil)))) (.nm 10) (.rng (.cons (.bin .add (.var 3) (.cst (.int 1))) (.cons (.cst (.int 8)) (.nil)))) (.cst (.bool true))))) (.nop))) (.seq (.set 4 false (.lst (.cons (.tup (.nil)) (.cons (.tup (.cons (.tup (.cons (.cst (.int 0)) (.cons (.cst (.int 1)) (.nil)))) (.nil))) (.cons (.tup (.cons (.tup (.cons (.cst (.int 0)) (.cons (.cst (.int 1)) (.nil)))) (.cons (.tup (.cons (.cst (.int 0)) (.cons (.cst (.int 2)) (.nil)))) (.cons (.tup (.cons (.cst (.int 1)) (.cons (.cst (.int 2)) (.nil)))) (.nil))))) (.cons (.tup (.cons (.tup (.cons (.cst (.int 1)) (.cons (.cst (.int 2)) (.nil)))) (.nil))) (.nil))))))) (.seq (.set 5 false (.lst (.cons (.cst .none) (.cons (.cst (.int 0)) (.cons (.cst (.str "")) (.cons (.lst (.nil)) (.cons (.lst (.cons (.tup (.cons (.cst (.int 0)) (.cons (.cst (.int 1)) (.nil)))) (.nil))) (.cons (.tup (.cons (.tup (.cons (.cst (.int 1)) (.cons (.cst (.int 0)) (.nil)))) (.nil))) (.cons (.tup (.cons (.tup (.cons (.cst (.int 0)) (.cons (.cst (.int 0)) (.nil)))) (.nil))) (.cons (.tup (.cons (.tup (.cons (.cst (.int 0)) (.cons (.cst (.int 3)) (.nil)))) (.nil))) (.cons (.tup (.cons (.tup (.cons (.neg (.cst (.int 1))) (.cons (.cst (.int 0)) (.nil)))) (.nil))) (.cons (.tup (.cons (.tup (.cons (.cst (.int 0)) (.cons (.cst (.bool true)) (.nil)))) (.nil))) (.cons (.tup (.cons (.tup (.cons (.cst (.bool false)) (.cons (.cst (.int 1)) (.nil)))) (.nil))) (.nil)))))))))))))) (.seq (.set 5 false (.bin .add (.var 5) (.lst (.cons (.tup (.cons (.tup (.cons (.cst (.int 0)) (.cons (.cst (.int 1)) (.nil)))) (.cons (.tup (.cons (.cst (.int 0)) (.cons (.cst (.int 1)) (.nil)))) (.nil)))) (.cons (.tup (.cons (.tup (.cons (.cst (.int 0)) (.cons (.cst (.int 2)) (.nil)))) (.cons (.tup (.cons (.cst (.int 0)) (.cons (.cst (.int 1)) (.nil)))) (.nil)))) (.cons (.tup (.cons (.tup (.cons (.cst (.int 0)) (.nil))) (.nil))) (.cons (.tup (.cons (.tup (.cons (.cst (.int 0)) (.cons (.cst (.int 1)) (.cons (.cst (.int 2)) (.nil))))) (.nil))) (.cons (.tup (.cons (.lst (.cons (.cst (.int 0)) (.cons (.cst (.int 1)) (.nil)))) (.nil))) (.cons (.tup (.cons (.cst (.int 0)) (.cons (.cst (.int 1)) (.nil)))) (.cons (.tup (.cons (.tup (.cons (.cst (.int 0)) (.cons (.cst (.str "1")) (.nil)))) (.nil))) (.cons (.cst (.bool true)) (.nil)))))))))))) (.seq (.set 5 false (.bin .add (.var 5) (.lst (.cons (.tup (.cons (.tup (.cons (.cst (.int 0)) (.cons (.cst .none) (.nil)))) (.nil))) (.cons (.tup (.cons (.tup (.cons (.tup (.cons (.cst (.int 0)) (.cons (.cst (.int 1)) (.nil)))) (.nil))) (.nil))) (.cons (.tup (.cons (.tup (.cons (.cst (.int 0)) (.cons (.cst (.int 1)) (.nil)))) (.cons (.cst .none) (.nil)))) (.cons (.tup (.cons (.cst (.str "01")) (.nil))) (.cons (.tup (.cons (.tup (.cons (.cst (.int 0)) (.cons (.bin .pow (.cst (.int 10)) (.cst (.int 30))) (.nil)))) (.nil))) (.cons (.tup (.cons (.tup (.cons (.cst (.int 0)) (.cons (.tup (.cons (.cst (.int 1)) (.nil))) (.nil)))) (.nil))) (.nil)))))))))) (.seq (.set 6 true (.lc [9] (.call 3 (.cons (.var 0) (.cons (.var 9) (.nil)))) (.nm 9) (.bin .add (.var 4) (.var 5)) (.cst (.bool true)))) (.seq (.set 7 false (.bin .add (.bin .mul (.lst (.cons (.cst (.bool true)) (.nil))) (.bi .len (.cons (.var 4) (.nil)))) (.bin .mul (.lst (.cons (.cst (.bool false)) (.nil))) (.bi .len (.cons (.var 5) (.nil)))))) (.seq (.set 6 true (.bin .add (.ovar 6) (.lst (.cons (.call 3 (.cons (.tup (.nil)) (.cons (.tup (.nil)) (.nil)))) (.cons (.call 3 (.cons (.tup (.nil)) (.cons (.tup (.cons (.tup (.cons (.cst (.int 0)) (.cons (.cst (.int 1)) (.nil)))) (.nil))) (.nil)))) (.cons (.call 3 (.cons (.slc (.var 0) (.nil) (.cst (.int 1))) (.cons (.tup (.cons (.tup (.cons (.cst (.int 0)) (.cons (.cst (.int 1)) (.nil)))) (.nil))) (.nil)))) (.nil))))))) (.seq (.set 6 true (.bin .add (.ovar 6) (.lst (.cons (.call 3 (.cons (.slc (.var 0) (.nil) (.cst (.int 2))) (.cons (.tup (.cons (.tup (.cons (.cst (.int 0)) (.cons (.cst (.int 1)) (.nil)))) (.nil))) (.nil)))) (.nil))))) (.seq (.set 6 true (.bin .add (.ovar 6) (.lst (.cons (.call 3 (.cons (.var 1) (.cons (.bi .tuple_ (.cons (.var 2) (.nil))) (.nil)))) (.cons (.call 3 (.cons (.var 1) (.cons (.tup (.cons (.tup (.cons (.cst (.int 6)) (.cons (.cst (.int 7)) (.nil)))) (.nil))) (.nil)))) (.cons (.call 3 (.cons (.var 1) (.cons (.tup (.cons (.tup (.cons (.cst (.int 7)) (.cons (.cst (.int 8)) (.nil)))) (.nil))) (.nil)))) (.nil))))))) (.seq (.set 7 false (.bin .add (.var 7) (.lst (.cons (.cst (.bool true)) (.cons (.cst (.bool false)) (.cons (.cst (.bool false)) (.cons (.cst (.bool true)) (.cons (.cst (.bool true)) (.cons (.cst (.bool true)) (.cons (.cst (.bool false)) (.nil))))))))))) (.seq (.set 8 false (.lst (.cons (.tup (.cons (.cst (.int 0)) (.cons (.cst (.int 0)) (.cons (.cst (.int 0)) (.nil))))) (.cons (.tup (.cons (.cst (.int 0)) (.cons (.cst (.int 0)) (.cons (.cst (.int 1)) (.nil))))) (.cons (.tup (.cons (.cst (.int 0)) (.cons (.cst (.int 1)) (.cons (.cst (.int 0)) (.nil))))) (.cons (.tup (.cons (.cst (.int 0)) (.cons (.cst (.int 1)) (.cons (.cst (.int 1)) (.nil))))) (.cons (.tup (.cons (.cst (.int 0)) (.cons (.cst (.int 1)) (.cons (.cst (.int 2)) (.nil))))) (.nil)))))))) (.seq (.app 6 (.lc [9] (.call 4 (.cons (.var 0) (.cons (.tup (.cons (.tup (.cons (.cst (.int 0)) (.cons (.cst (.int 1)) (.nil)))) (.cons (.tup (.cons (.cst (.int 1)) (.cons (.cst (.int 2)) (.nil)))) (.nil)))) (.cons (.var 9) (.nil))))) (.nm 9) (.var 8) (.cst (.bool true)))) (.seq (.app 6 (.lc [9] (.call 5 (.cons (.var 0) (.cons (.tup (.cons (.tup (.cons (.cst (.int 0)) (.cons (.cst (.int 1)) (.nil)))) (.cons (.tup (.cons (.cst (.int 1)) (.cons (.cst (.int 2)) (.nil)))) (.nil)))) (.cons (.var 9) (.nil))))) (.nm 9) (.var 8) (.cst (.bool true)))) (.seq (.app 6 (.lc [9] (.call 4 (.cons (.var 0) (.cons (.tup (.cons (.tup (.cons (.cst (.int 0)) (.cons (.cst (.int 2)) (.nil)))) (.cons (.tup (.cons (.cst (.int 1)) (.cons (.cst (.int 2)) (.nil)))) (.nil)))) (.cons (.var 9) (.nil))))) (.nm 9) (.var 8) (.cst (.bool true)))) (.seq (.set 7 false (.bin .add (.var 7) (.lst (.cons (.lst (.cons (.tup (.cons (.cst (.int 0)) (.cons (.cst (.int 1)) (.nil)))) (.cons (.tup (.cons (.cst (.int 0)) (.cons (.cst (.int 1)) (.nil)))) (.cons (.cst .none) (.cons (.tup (.cons (.cst (.int 1)) (.cons (.cst (.int 2)) (.nil)))) (.cons (.cst .none) (.nil))))))) (.cons (.lst (.cons (.cst (.bool false)) (.cons (.cst (.bool false)) (.cons (.cst (.bool true)) (.cons (.cst (.bool false)) (.cons (.cst (.bool true)) (.nil))))))) (.nil)))))) (.seq (.set 7 false (.bin .add (.var 7) (.lst (.cons (.lst (.cons (.tup (.cons (.cst (.int 0)) (.cons (.cst (.int 2)) (.nil)))) (.cons (.cst .none) (.cons (.tup (.cons (.cst (.int 0)) (.cons (.cst (.int 2)) (.nil)))) (.cons (.tup (.cons (.cst (.int 1)) (.cons (.cst (.int 2)) (.nil)))) (.cons (.cst .none) (.nil))))))) (.nil))))) (.seq (.set 6 true (.bin .add (.ovar 6) (.lst (.cons (.call 4 (.cons (.tup (.nil)) (.cons (.tup (.nil)) (.cons (.tup (.nil)) (.nil))))) (.cons (.call 5 (.cons (.tup (.nil)) (.cons (.tup (.nil)) (.cons (.tup (.nil)) (.nil))))) (.cons (.call 5 (.cons (.var 0) (.cons (.tup (.nil)) (.cons (.tup (.cons (.cst (.int 0)) (.cons (.cst (.int 0)) (.cons (.cst (.int 0)) (.nil))))) (.nil))))) (.nil))))))) (.seq (.set 6 true (.bin .add (.ovar 6) (.lst (.cons (.call 4 (.cons (.var 1) (.cons (.bi .tuple_ (.cons (.var 2) (.nil))) (.cons (.trg (.cons (.cst (.int 8)) (.nil))) (.nil))))) (.nil))))) (.seq (.set 6 true (.bin .add (.ovar 6) (.lst (.cons (.call 4 (.cons (.var 1) (.cons (.bi .tuple_ (.cons (.var 2) (.nil))) (.cons (.tup (.cons (.cst (.int 0)) (.cons (.cst (.int 1)) (.cons (.cst (.int 2)) (.cons (.cst (.int 3)) (.cons (.cst (.int 4)) (.cons (.cst (.int 5)) (.cons (.cst (.int 6)) (.cons (.cst (.int 6)) (.nil)))))))))) (.nil))))) (.nil))))) (.seq (.set 7 false (.bin .add (.var 7) (.lst (.cons (.cst .none) (.cons (.cst (.bool true)) (.cons (.cst (.bool true)) (.cons (.cst .none) (.cons (.tup (.cons (.cst (.int 6)) (.cons (.cst (.int 7)) (.nil)))) (.nil))))))))) (.seq (.set 6 true (.bin .add (.ovar 6) (.lst (.cons (.callK 3 [1, 0] (.nil) (.cons (.tup (.cons (.tup (.cons (.cst (.int 0)) (.cons (.cst (.int 1)) (.nil)))) (.nil))) (.cons (.call 9 (.cons (.var 0) (.nil))) (.nil)))) (.nil))))) (.seq (.set 6 true (.bin .add (.ovar 6) (.lst (.cons (.callK 5 [2, 1, 0] (.nil) (.cons (.lst (.cons (.cst (.int 0)) (.cons (.cst (.int 0)) (.cons (.cst (.int 1)) (.nil))))) (.cons (.lst (.cons (.lst (.cons (.cst (.int 0)) (.cons (.cst (.int 1)) (.nil)))) (.nil))) (.cons (.var 0) (.nil))))) (.nil))))) (.seq (.app 6 (.callK 4 [2, 1, 0] (.nil) (.cons (.lst (.cons (.cst (.int 0)) (.cons (.cst (.int 0)) (.cons (.cst (.int 1)) (.nil))))) (.cons (.lst (.cons (.lst (.cons (.cst (.int 0)) (.cons (.cst (.int 1)) (.nil)))) (.nil))) (.cons (.call 9 (.cons (.var 0) (.nil))) (.nil)))))) (.seq (.frz 6) (.seq (.ret (.call 8 (.cons (.var 6) (.cons (.bin .add (.var 7) (.lst (.cons (.cst (.bool true)) (.cons (.cst (.bool false)) (.cons (.tup (.cons (.cst (.int 0)) (.cons (.cst (.int 1)) (.nil)))) (.nil)))))) (.nil))))) (.nop))))))))))))))))))))))))))))
def f18 : Fn := { ps := 0, bx := false, fr := false, slots := 11, body := y18 }
def d18 : DefD := { x := "_law_by_hand_right", st := s18, N := ["_law_line_so", "_law_wide_so", "_law_every_so", "_law_j", "_law_good_so", "_law_bad_so", "_law_got", "_law_due", "_law_shelves_so", "_law_own", "_law_k"], ps := [], fn := f18 }
abbrev s19 : Stmt := topS 24
/-- _law_right -/
def y19 : IS := .seq (.forr (.nm 1) (.rng (.cons (.cst (.int 10)) (.nil))) (.seq (.sett (.nm 2) (.callB 11 (.cons (.cst (.int 5)) (.nil)))) (.seq (.sett (.tp (.cons (.nm 3) (.cons (.nm 4) (.nil)))) (.tup (.cons (.callB 12 (.cons (.bi .len (.cons (.var 2) (.nil))) (.nil))) (.cons (.call 9 (.cons (.var 2) (.nil))) (.nil))))) (.seq (.set 5 false (.bin .add (.lst (.cons (.var 3) (.nil))) (.lc [9] (.callB 17 (.cons (.var 3) (.cons (.bi .len (.cons (.var 2) (.nil))) (.nil)))) (.nm 9) (.rng (.cons (.cst (.int 4)) (.nil))) (.cst (.bool true))))) (.seq (.iff (.not (.call 8 (.cons (.lc [10] (.call 3 (.cons (.var 2) (.cons (.var 10) (.nil)))) (.nm 10) (.var 5) (.cst (.bool true))) (.cons (.lc [10] (.call 16 (.cons (.bi .len (.cons (.var 2) (.nil))) (.cons (.var 10) (.nil)))) (.nm 10) (.var 5) (.cst (.bool true))) (.nil))))) (.seq (.ret (.cst (.bool false))) (.nop)) (.nop)) (.seq (.forr (.nm 6) (.call 13 (.cons (.bi .len (.cons (.var 2) (.nil))) (.nil))) (.seq (.set 7 false (.call 14 (.cons (.var 3) (.cons (.var 6) (.nil))))) (.seq (.set 8 true (.lst (.cons (.call 4 (.cons (.var 2) (.cons (.var 3) (.cons (.var 6) (.nil))))) (.cons (.call 5 (.cons (.var 2) (.cons (.var 3) (.cons (.var 6) (.nil))))) (.nil))))) (.seq (.app 8 (.call 4 (.cons (.var 4) (.cons (.call 9 (.cons (.var 3) (.nil))) (.cons (.bi .list_ (.cons (.var 6) (.nil))) (.nil)))))) (.seq (.frz 8) (.seq (.iff (.not (.call 8 (.cons (.var 8) (.cons (.lst (.cons (.var 7) (.cons (.cmp .is_ (.var 7) (.cst .none)) (.cons (.var 7) (.nil))))) (.nil))))) (.seq (.ret (.cst (.bool false))) (.nop)) (.nop)) (.nop))))))) (.nop))))))) (.seq (.ret (.cst (.bool true))) (.nop))
def f19 : Fn := { ps := 0, bx := true, fr := false, slots := 11, body := y19 }
def d19 : DefD := { x := "_law_right", st := s19, N := ["_law_box_here", "_law_turn", "_law_ties_so", "_law_locks_so", "_law_soft", "_law_some", "_law_shelf_so", "_law_due", "_law_got", "_law_lap", "_law_own"], ps := ["_law_box_here"], fn := f19 }
def T : Txt' where
  DL := [d0, d1, d2, d3, d4, d5, d6, d7, d8, d9, d10, d11, d12, d13, d14, d15, d16, d17, d18, d19]
  blt := ["abs", "all", "bool", "enumerate", "int", "isinstance", "len", "list", "max", "range", "str", "tuple", "zip"]
  con := [("PAIR", .int 2)]
  kws := [(3, 0, ["thing", "debts"], [1, 0]), (5, 0, ["book", "bars", "debts"], [2, 1, 0]), (4, 0, ["book", "bars", "debts"], [2, 1, 0])]
abbrev sLaw : Stmt := topS 25
abbrev sCells : Stmt := topS 12
def lw : LawD := { st := sLaw, s := "_law_script", c := "_law_cells_so", k := "_law_k", top := 3, hand := 18, box := 6, right := 19 }
abbrev φ (k : Nat) : Phi := fnN (tblOf T.DL) k
end Lw
/-! text D1 -/
set_option Elab.async false
set_option linter.all false
set_option maxRecDepth 100000
set_option maxHeartbeats 4000000
namespace Dv
open PySem PySem.Spec L2

/-! ### data over a frozen part of the heap -/
mutual
inductive Rp (F : Hp) : V → P → Prop
  | non : Rp F .non .none
  | bl (b : Bool) : Rp F (.bl b) (.bool b)
  | int (i : Int) : Rp F (.int i) (.int i)
  | str (x : Str) : Rp F (.str x) (.str x)
  | lst {a : Addr} {vs : List V} {ds : List P} : F a = some (.lst vs) → RpA F vs ds → Rp F (.ref a) (.list ds)
  | tup {a : Addr} {vs : List V} {ds : List P} : F a = some (.tup vs) → RpA F vs ds → Rp F (.ref a) (.tuple ds)
inductive RpA (F : Hp) : List V → List P → Prop
  | nil : RpA F [] []
  | cons {v : V} {vs : List V} {d : P} {ds : List P} : Rp F v d → RpA F vs ds → RpA F (v :: vs) (d :: ds)
end
mutual
theorem Rp.mono {F F' : Hp} (h : Same F F') : ∀ {v : V} {d : P}, Rp F v d → Rp F' v d
  | _, _, .non => .non
  | _, _, .bl b => .bl b
  | _, _, .int i => .int i
  | _, _, .str x => .str x
  | _, _, .lst e r => .lst (h _ _ e) (RpA.mono h r)
  | _, _, .tup e r => .tup (h _ _ e) (RpA.mono h r)
theorem RpA.mono {F F' : Hp} (h : Same F F') : ∀ {vs : List V} {ds : List P}, RpA F vs ds → RpA F' vs ds
  | _, _, .nil => .nil
  | _, _, .cons r t => .cons (Rp.mono h r) (RpA.mono h t)
end
mutual
theorem Rp.dp {K : PySem.W.Frag} {F H : Hp} (h : Same F H) : ∀ {v : V} {d : P}, Rp F v d → Dp K H v d
  | _, _, .non => .non
  | _, _, .bl b => .bl b
  | _, _, .int i => .int i
  | _, _, .str x => .str x
  | _, _, .lst e r => .lst (SqL.of (h _ _ e)) (RpA.dp h r)
  | _, _, .tup e r => .tup (SqT.of (h _ _ e)) (RpA.dp h r)
theorem RpA.dp {K : PySem.W.Frag} {F H : Hp} (h : Same F H) : ∀ {vs : List V} {ds : List P}, RpA F vs ds → DpAll K H vs ds
  | _, _, .nil => .nil
  | _, _, .cons r t => .cons (Rp.dp h r) (RpA.dp h t)
end
theorem RpA.length {F : Hp} : ∀ {vs : List V} {ds : List P}, RpA F vs ds → vs.length = ds.length
  | _, _, .nil => rfl
  | _, _, .cons _ t => congrArg (· + 1) t.length
theorem RpA.get {F : Hp} : ∀ {vs : List V} {ds : List P} {i : Nat} {d : P}, RpA F vs ds → ds[i]? = some d → ∃ v, vs[i]? = some v ∧ Rp F v d
  | _, _, _, _, .nil, e => by simp at e
  | _, _, 0, _, .cons r _, e => by
    simp at e
    subst e
    exact ⟨_, rfl, r⟩
  | _, _, i + 1, _, .cons _ t, e => by
    obtain ⟨v, h1, h2⟩ := RpA.get (i := i) t (by simpa using e)
    exact ⟨v, by simpa using h1, h2⟩
theorem RpA.append {F : Hp} : ∀ {vs ws : List V} {ds es : List P}, RpA F vs ds → RpA F ws es → RpA F (vs ++ ws) (ds ++ es)
  | _, _, _, _, .nil, s => s
  | _, _, _, _, .cons r t, s => .cons r (RpA.append t s)
theorem RpA.set {F : Hp} {v : V} {d : P} (r : Rp F v d) : ∀ {vs : List V} {ds : List P} (i : Nat), RpA F vs ds → RpA F (vs.set i v) (ds.set i d)
  | _, _, _, .nil => .nil
  | _, _, 0, .cons _ t => .cons r t
  | _, _, i + 1, .cons q t => .cons q (RpA.set r i t)
theorem RpA.drop {F : Hp} : ∀ {vs : List V} {ds : List P} (n : Nat), RpA F vs ds → RpA F (vs.drop n) (ds.drop n)
  | _, _, 0, r => r
  | _, _, _ + 1, .nil => .nil
  | _, _, n + 1, .cons _ t => RpA.drop n t
theorem RpA.take {F : Hp} : ∀ {vs : List V} {ds : List P} (n : Nat), RpA F vs ds → RpA F (vs.take n) (ds.take n)
  | _, _, 0, _ => .nil
  | _, _, _ + 1, .nil => .nil
  | _, _, n + 1, .cons r t => .cons r (RpA.take n t)
theorem RpA.reverse {F : Hp} : ∀ {vs : List V} {ds : List P}, RpA F vs ds → RpA F vs.reverse ds.reverse
  | _, _, .nil => .nil
  | _, _, .cons r t => by
    rw [List.reverse_cons, List.reverse_cons]
    exact (RpA.reverse t).append (.cons r .nil)

/-! ### steps -/
/-- from F, H to F', H': all is kept but the source of draws; what is frozen anew is new -/
structure Ext (bo : Option Addr) (F H F' H' : Hp) : Prop where
  sf : Same F F'
  sub : Same F' H'
  keep : ∀ a o, some a ≠ bo → H a = some o → H' a = some o
  new : ∀ a o, F a = none → F' a = some o → H a = none
def BoxRep (bo : Option Addr) (F H : Hp) (b : Bx) : Prop := ∀ β, bo = some β → F β = none ∧ H β = some (.lst [.int b.1, .int b.2.1, .int b.2.2])
theorem Ext.refl {bo : Option Addr} {F H : Hp} (s : Same F H) : Ext bo F H F H := ⟨Same.refl _, s, fun _ _ _ h => h, fun _ _ h h' => by rw [h] at h'; cases h'⟩
theorem Ext.trans {bo : Option Addr} {F H F1 H1 F2 H2 : Hp} {b : Bx} (x : Ext bo F H F1 H1) (y : Ext bo F1 H1 F2 H2) (q : BoxRep bo F2 H2 b) : Ext bo F H F2 H2 := by
  refine ⟨x.sf.trans y.sf, y.sub, fun a o n h => y.keep a o n (x.keep a o n h), fun a o h h' => ?_⟩
  by_cases e : some a = bo
  · rw [(q a e.symm).1] at h'
    cases h'
  · cases h1 : F1 a with
    | none =>
      have n1 := y.new a o h1 h'
      cases h2 : H a with
      | none => rfl
      | some u =>
        rw [x.keep a u e h2] at n1
        cases n1
    | some u => exact x.new a u h h1
theorem Ext.of_none {bo : Option Addr} {F H F' H' : Hp} (x : Ext none F H F' H') : Ext bo F H F' H' := ⟨x.sf, x.sub, fun a o _ h => x.keep a o (fun z => nomatch z) h, x.new⟩
theorem Ext.box {bo : Option Addr} {F H F' H' : Hp} {b : Bx} (x : Ext none F H F' H') (q : BoxRep bo F H b) : BoxRep bo F' H' b := fun β e => by
  obtain ⟨q1, q2⟩ := q β e
  refine ⟨?_, x.keep _ _ (fun z => nomatch z) q2⟩
  cases h : F' β with
  | none => rfl
  | some u =>
    have := x.new _ _ q1 h
    rw [q2] at this
    cases this
/-- a cell that stands unfrozen stays unfrozen -/
theorem Ext.un {bo : Option Addr} {F H F' H' : Hp} (x : Ext bo F H F' H') {a : Addr} {o : HO} (h : F a = none) (h' : H a = some o) : F' a = none := by
  cases e : F' a with
  | none => rfl
  | some u =>
    have := x.new _ _ h e
    rw [h'] at this
    cases this

/-! ### what an operand, a new value may be -/
inductive Mo where
  | n
  | r
/-- an operand: frozen data, or a list that may be read -/
def RpR (bo : Option Addr) (F H : Hp) (v : V) (d : P) : Prop :=
  match d with
  | .list ds => ∃ a vs, v = .ref a ∧ some a ≠ bo ∧ H a = some (.lst vs) ∧ RpA F vs ds
  | d => Rp F v d
def RpM (bo : Option Addr) (F H : Hp) (m : Mo) (v : V) (d : P) : Prop :=
  match m with
  | .n => Rp F v d
  | .r => RpR bo F H v d
theorem Rp.r {bo : Option Addr} {F H : Hp} {b : Bx} (s : Same F H) (q : BoxRep bo F H b) {v : V} {d : P} (r : Rp F v d) : RpR bo F H v d := by
  cases r with
  | lst e r =>
    refine ⟨_, _, rfl, fun z => ?_, s _ _ e, r⟩
    have := (q _ z.symm).1
    rw [e] at this
    cases this
  | non => exact .non
  | bl b => exact .bl b
  | int i => exact .int i
  | str x => exact .str x
  | tup e r => exact .tup e r
theorem RpR.mono {bo : Option Addr} {F H F' H' : Hp} (x : Ext bo F H F' H') {v : V} {d : P} (r : RpR bo F H v d) : RpR bo F' H' v d := by
  cases d with
  | list ds =>
    obtain ⟨a, vs, e, n, h, r⟩ := r
    exact ⟨a, vs, e, n, x.keep _ _ n h, r.mono x.sf⟩
  | none => exact Rp.mono x.sf r
  | bool b => exact Rp.mono x.sf r
  | int i => exact Rp.mono x.sf r
  | str z => exact Rp.mono x.sf r
  | tuple ds => exact Rp.mono x.sf r
  | dict ds => exact Rp.mono x.sf r
theorem RpM.mono {bo : Option Addr} {F H F' H' : Hp} (x : Ext bo F H F' H') {m : Mo} {v : V} {d : P} (r : RpM bo F H m v d) : RpM bo F' H' m v d := by
  cases m with
  | n => exact Rp.mono x.sf r
  | r => exact RpR.mono x r
theorem RpM.r {bo : Option Addr} {F H : Hp} {b : Bx} (s : Same F H) (q : BoxRep bo F H b) {m : Mo} {v : V} {d : P} (r : RpM bo F H m v d) : RpR bo F H v d := by
  cases m with
  | n => exact Rp.r s q r
  | r => exact r
/-- an operand as the layer's data -/
theorem RpR.dp {bo : Option Addr} {K : PySem.W.Frag} {F H : Hp} (s : Same F H) {v : V} {d : P} (r : RpR bo F H v d) : Dp K H v d := by
  cases d with
  | list ds =>
    obtain ⟨a, vs, rfl, n, h, r⟩ := r
    exact .lst (SqL.of h) (r.dp s)
  | none => exact Rp.dp s r
  | bool b => exact Rp.dp s r
  | int i => exact Rp.dp s r
  | str z => exact Rp.dp s r
  | tuple ds => exact Rp.dp s r
  | dict ds => exact Rp.dp s r
/-- a value whose list, if it is one, is new since B and not frozen -/
def FrR (bo : Option Addr) (B F H : Hp) (v : V) (d : P) : Prop :=
  match d with
  | .list ds => ∃ a vs, v = .ref a ∧ some a ≠ bo ∧ B a = none ∧ F a = none ∧ H a = some (.lst vs) ∧ RpA F vs ds
  | d => Rp F v d
theorem FrR.mono {bo : Option Addr} {B F H F' H' : Hp} (x : Ext bo F H F' H') {v : V} {d : P} (r : FrR bo B F H v d) : FrR bo B F' H' v d := by
  cases d with
  | list ds =>
    obtain ⟨a, vs, e, n, b, f, h, r⟩ := r
    exact ⟨a, vs, e, n, b, x.un f h, x.keep _ _ n h, r.mono x.sf⟩
  | none => exact Rp.mono x.sf r
  | bool b => exact Rp.mono x.sf r
  | int i => exact Rp.mono x.sf r
  | str z => exact Rp.mono x.sf r
  | tuple ds => exact Rp.mono x.sf r
  | dict ds => exact Rp.mono x.sf r
/-- it may be frozen -/
theorem FrR.fz {bo : Option Addr} {B F H F' H' : Hp} {b : Bx} (x : Ext bo F H F' H') (q : BoxRep bo F' H' b) (hB : ∀ a, B a = none → H a = none) {v : V} {d : P} (r : FrR bo B F' H' v d) :
    ∃ F'', Ext bo F H F'' H' ∧ BoxRep bo F'' H' b ∧ Same F' F'' ∧ Rp F'' v d := by
  cases d with
  | list ds =>
    obtain ⟨a, vs, e, n, hb, f, h, r⟩ := r
    have s : Same F' (upd F' a (.lst vs)) := fun c o hc => by
      rw [upd_ne (ne_of_none hc f)]
      exact hc
    refine ⟨upd F' a (.lst vs), ⟨x.sf.trans s, fun c o hc => ?_, x.keep, fun c o h1 h2 => ?_⟩, fun β e => ?_, s, ?_⟩
    · by_cases z : c = a
      · subst z
        rw [upd_same] at hc
        cases hc
        exact h
      · rw [upd_ne z] at hc
        exact x.sub _ _ hc
    · by_cases z : c = a
      · subst z
        exact hB _ hb
      · rw [upd_ne z] at h2
        exact x.new _ _ h1 h2
    · have z : β ≠ a := fun z => n (by rw [← z]; exact e.symm)
      rw [upd_ne z]
      exact q β e
    · rw [e]
      exact .lst upd_same (r.mono s)
  | none => exact ⟨F', x, q, Same.refl _, r⟩
  | bool b => exact ⟨F', x, q, Same.refl _, r⟩
  | int i => exact ⟨F', x, q, Same.refl _, r⟩
  | str z => exact ⟨F', x, q, Same.refl _, r⟩
  | tuple ds => exact ⟨F', x, q, Same.refl _, r⟩
  | dict ds => exact ⟨F', x, q, Same.refl _, r⟩

/-! ### environments -/
/-- the def's own list at a -/
def Ow (bo : Option Addr) (H0 F H : Hp) (a : Addr) (d : P) : Prop :=
  match d with
  | .list ds => some a ≠ bo ∧ H0 a = none ∧ F a = none ∧ ∃ vs, H a = some (.lst vs) ∧ RpA F vs ds
  | _ => False
def SlRep (bo : Option Addr) (H0 F H : Hp) (x : Option V) (s : Sl) : Prop :=
  match s with
  | .no => True
  | .v d => ∃ v, x = some v ∧ Rp F v d
  | .o d => ∃ a, x = some (.ref a) ∧ Ow bo H0 F H a d
structure EnvRep (bo : Option Addr) (H0 F H : Hp) (σ : L2.St) (e : Env) : Prop where
  len : e.length = σ.length
  sl : ∀ (i : Nat) (s : Sl), e[i]? = some s → SlRep bo H0 F H (σ[i]?.getD none) s
  ap : ∀ (i j : Nat) (a : Addr) (di dj : P), i ≠ j → e[i]? = some (.o di) → e[j]? = some (.o dj) → σ[i]? = some (some (.ref a)) → σ[j]? ≠ some (some (.ref a))
theorem Ow.mono {bo : Option Addr} {H0 F H F' H' : Hp} (x : Ext bo F H F' H') {a : Addr} {d : P} (r : Ow bo H0 F H a d) : Ow bo H0 F' H' a d := by
  cases d with
  | list ds =>
    obtain ⟨n, h0, f, vs, h, r⟩ := r
    exact ⟨n, h0, x.un f h, vs, x.keep _ _ n h, r.mono x.sf⟩
  | _ => exact r.elim
theorem SlRep.mono {bo : Option Addr} {H0 F H F' H' : Hp} (x : Ext bo F H F' H') {v : Option V} {s : Sl} (r : SlRep bo H0 F H v s) : SlRep bo H0 F' H' v s := by
  cases s with
  | no => trivial
  | v d =>
    obtain ⟨u, e, r⟩ := r
    exact ⟨u, e, r.mono x.sf⟩
  | o d =>
    obtain ⟨u, e, r⟩ := r
    exact ⟨u, e, r.mono x⟩
theorem EnvRep.mono {bo : Option Addr} {H0 F H F' H' : Hp} (x : Ext bo F H F' H') {σ : L2.St} {e : Env} (r : EnvRep bo H0 F H σ e) : EnvRep bo H0 F' H' σ e :=
  ⟨r.len, fun i s h => (r.sl i s h).mono x, r.ap⟩
structure Pre (bo : Option Addr) (H0 : Hp) (σ : L2.St) (H : Hp) (e : Env) (b : Bx) (F : Hp) : Prop where
  sub : Same F H
  env : EnvRep bo H0 F H σ e
  box : BoxRep bo F H b
  bs : ∀ β, bo = some β → σ[0]? = some (some (.ref β))
  al : ∀ a, H0 a ≠ none → H a ≠ none
theorem Pre.step {bo : Option Addr} {H0 : Hp} {σ : L2.St} {H H' : Hp} {e : Env} {b b' : Bx} {F F' : Hp} (p : Pre bo H0 σ H e b F) (x : Ext bo F H F' H') (q : BoxRep bo F' H' b') : Pre bo H0 σ H' e b' F' := by
  refine ⟨x.sub, p.env.mono x, q, p.bs, fun a h h' => ?_⟩
  cases e : H a with
  | none => exact p.al a h e
  | some o =>
    by_cases z : some a = bo
    · rw [(q a z.symm).2] at h'
      cases h'
    · rw [x.keep a o z e] at h'
      cases h'

/-! ### results, lifted -/
/-- the classes of errors: their addresses and fields -/
structure Cls' where
  ad : Nat → Addr
  fld : Nat → Str
def ExcRep (cs : Cls') (F H : Hp) (dd : Option Addr) (c : Nat) (d : Option P) : Prop :=
  match d with
  | none => dd = none
  | some x => ∃ a v, dd = some a ∧ H a = some (.xd [(cs.fld c, v)]) ∧ Rp F v x
section
variable (bo : Option Addr) (H0 : Hp) (cs : Cls') (W : WX)
def fin (Rl : Hp → Hp → Hp → V → P → Prop) (σ : L2.St) (F H : Hp) (r : R P) (Q : VK) : Prop :=
  match r with
  | .ok d b => ∀ v F' H', Ext bo F H F' H' → BoxRep bo F' H' b → Rl H F' H' v d → Q v H'
  | .ex c d b => ∀ dd F' H', Ext bo F H F' H' → BoxRep bo F' H' b → ExcRep cs F' H' dd c d → W (.ref (cs.ad c)) dd σ H'
  | .no => False
abbrev lM (m : Mo) : Hp → Hp → Hp → V → P → Prop := fun _ F' H' v d => RpM bo F' H' m v d
abbrev lF : Hp → Hp → Hp → V → P → Prop := fun H F' H' v d => FrR bo H F' H' v d
def lift (Rl : Hp → Hp → Hp → V → P → Prop) (g : Env → Bx → R P) : TE := fun σ H Q => ∃ e b F, Pre bo H0 σ H e b F ∧ fin bo cs W Rl σ F H (g e b) Q
def finA (m : Mo) (σ : L2.St) (F H : Hp) (r : R P) (Q : List V → Hp → Prop) : Prop :=
  match r with
  | .ok d b => ∀ vs F' H', Ext bo F H F' H' → BoxRep bo F' H' b → Paired (RpM bo F' H' m) vs (argsOf d) → Q vs H'
  | .ex c d b => ∀ dd F' H', Ext bo F H F' H' → BoxRep bo F' H' b → ExcRep cs F' H' dd c d → W (.ref (cs.ad c)) dd σ H'
  | .no => False
def liftA (m : Mo) (g : Env → Bx → R P) : TA := fun σ H Q => ∃ e b F, Pre bo H0 σ H e b F ∧ finA bo cs W m σ F H (g e b) Q
def finT (σ : L2.St) (F H : Hp) (r : R Bool) (Q : Bool → Hp → Prop) : Prop :=
  match r with
  | .ok t b => ∀ F' H', Ext bo F H F' H' → BoxRep bo F' H' b → Q t H'
  | .ex c d b => ∀ dd F' H', Ext bo F H F' H' → BoxRep bo F' H' b → ExcRep cs F' H' dd c d → W (.ref (cs.ad c)) dd σ H'
  | .no => False
def liftT (g : Env → Bx → R Bool) : TT := fun σ H Q => ∃ e b F, Pre bo H0 σ H e b F ∧ finT bo cs W σ F H (g e b) Q
end
theorem bindR_ok {α β : Type} {a : α} {b : Bx} {f : α → Bx → R β} : (R.ok a b).bind f = f a b := rfl
section
variable {bo : Option Addr} {H0 : Hp} {cs : Cls'} {W : WX} {σ : L2.St} {F H F1 H1 : Hp} {b b1 : Bx} {e : Env}
/-- the same from a later state -/
theorem fin_step {Rl : Hp → Hp → Hp → V → P → Prop} {r : R P} {Q : VK} (hR : ∀ F' H' v d, Rl H1 F' H' v d → (∀ a, H1 a = none → H a = none) → Rl H F' H' v d) (q1 : BoxRep bo F1 H1 b1) (x : Ext bo F H F1 H1) (h : fin bo cs W Rl σ F H r Q) : fin bo cs W Rl σ F1 H1 r Q := by
  have hn : ∀ a, H1 a = none → H a = none := fun a n => by
    cases e : H a with
    | none => rfl
    | some o =>
      by_cases z : some a = bo
      · rw [(q1 a z.symm).2] at n
        cases n
      · rw [x.keep a o z e] at n
        cases n
  cases r with
  | ok d b2 => exact fun v F' H' y q r => h v F' H' (x.trans y q) q (hR _ _ _ _ r hn)
  | ex c d b2 => exact fun dd F' H' y q r => h dd F' H' (x.trans y q) q r
  | no => exact h.elim
theorem finA_step {m : Mo} {r : R P} {Q : List V → Hp → Prop} (x : Ext bo F H F1 H1) (h : finA bo cs W m σ F H r Q) : finA bo cs W m σ F1 H1 r Q := by
  cases r with
  | ok d b2 => exact fun v F' H' y q r => h v F' H' (x.trans y q) q r
  | ex c d b2 => exact fun dd F' H' y q r => h dd F' H' (x.trans y q) q r
  | no => exact h.elim
theorem finT_step {r : R Bool} {Q : Bool → Hp → Prop} (x : Ext bo F H F1 H1) (h : finT bo cs W σ F H r Q) : finT bo cs W σ F1 H1 r Q := by
  cases r with
  | ok d b2 => exact fun F' H' y q => h F' H' (x.trans y q) q
  | ex c d b2 => exact fun dd F' H' y q r => h dd F' H' (x.trans y q) q r
  | no => exact h.elim
theorem hRM {m : Mo} : ∀ F' H' v d, lM bo m H1 F' H' v d → (∀ a, H1 a = none → H a = none) → lM bo m H F' H' v d := fun _ _ _ _ h _ => h
theorem hRF : ∀ F' H' v d, lF bo H1 F' H' v d → (∀ a, H1 a = none → H a = none) → lF bo H F' H' v d := fun F' H' v d h hn => by
  cases d with
  | list ds =>
    obtain ⟨a, vs, e, n, b, r⟩ := h
    exact ⟨a, vs, e, n, hn _ b, r⟩
  | none => exact h
  | bool b => exact h
  | int i => exact h
  | str z => exact h
  | tuple ds => exact h
  | dict ds => exact h
/-- first r, then k -/
theorem fin_bind {Rl Rl1 : Hp → Hp → Hp → V → P → Prop} {r : R P} {k : P → Bx → R P} {Q Q1 : VK} (hR : ∀ H H1 F' H' v d, Rl H1 F' H' v d → (∀ a, H1 a = none → H a = none) → Rl H F' H' v d) (p : Pre bo H0 σ H e b F) (h : fin bo cs W Rl σ F H (r.bind k) Q)
    (hk : ∀ d b1 v F1 H1, Pre bo H0 σ H1 e b1 F1 → Ext bo F H F1 H1 → Rl1 H F1 H1 v d → fin bo cs W Rl σ F1 H1 (k d b1) Q → Q1 v H1) : fin bo cs W Rl1 σ F H r Q1 := by
  cases r with
  | ok d b1 => exact fun v F1 H1 x q r => hk d b1 v F1 H1 (p.step x q) x r (fin_step (fun F' H' v d => hR H H1 F' H' v d) q x h)
  | ex c d b1 => exact h
  | no => exact h.elim
theorem fin_bindA {Rl : Hp → Hp → Hp → V → P → Prop} {m : Mo} {r : R P} {k : P → Bx → R P} {Q : VK} {Q1 : List V → Hp → Prop} (hR : ∀ H H1 F' H' v d, Rl H1 F' H' v d → (∀ a, H1 a = none → H a = none) → Rl H F' H' v d) (p : Pre bo H0 σ H e b F) (h : fin bo cs W Rl σ F H (r.bind k) Q)
    (hk : ∀ d b1 vs F1 H1, Pre bo H0 σ H1 e b1 F1 → Ext bo F H F1 H1 → Paired (RpM bo F1 H1 m) vs (argsOf d) → fin bo cs W Rl σ F1 H1 (k d b1) Q → Q1 vs H1) : finA bo cs W m σ F H r Q1 := by
  cases r with
  | ok d b1 => exact fun v F1 H1 x q r => hk d b1 v F1 H1 (p.step x q) x r (fin_step (fun F' H' v d => hR H H1 F' H' v d) q x h)
  | ex c d b1 => exact h
  | no => exact h.elim
theorem finA_bind {Rl1 : Hp → Hp → Hp → V → P → Prop} {m : Mo} {r : R P} {k : P → Bx → R P} {Q : List V → Hp → Prop} {Q1 : VK} (p : Pre bo H0 σ H e b F) (h : finA bo cs W m σ F H (r.bind k) Q)
    (hk : ∀ d b1 v F1 H1, Pre bo H0 σ H1 e b1 F1 → Ext bo F H F1 H1 → Rl1 H F1 H1 v d → finA bo cs W m σ F1 H1 (k d b1) Q → Q1 v H1) : fin bo cs W Rl1 σ F H r Q1 := by
  cases r with
  | ok d b1 => exact fun v F1 H1 x q r => hk d b1 v F1 H1 (p.step x q) x r (finA_step x h)
  | ex c d b1 => exact h
  | no => exact h.elim
theorem finA_bindA {m m1 : Mo} {r : R P} {k : P → Bx → R P} {Q Q1 : List V → Hp → Prop} (p : Pre bo H0 σ H e b F) (h : finA bo cs W m σ F H (r.bind k) Q)
    (hk : ∀ d b1 vs F1 H1, Pre bo H0 σ H1 e b1 F1 → Ext bo F H F1 H1 → Paired (RpM bo F1 H1 m1) vs (argsOf d) → finA bo cs W m σ F1 H1 (k d b1) Q → Q1 vs H1) : finA bo cs W m1 σ F H r Q1 := by
  cases r with
  | ok d b1 => exact fun v F1 H1 x q r => hk d b1 v F1 H1 (p.step x q) x r (finA_step x h)
  | ex c d b1 => exact h
  | no => exact h.elim
theorem finT_bind {Rl1 : Hp → Hp → Hp → V → P → Prop} {r : R P} {k : P → Bx → R Bool} {Q : Bool → Hp → Prop} {Q1 : VK} (p : Pre bo H0 σ H e b F) (h : finT bo cs W σ F H (r.bind k) Q)
    (hk : ∀ d b1 v F1 H1, Pre bo H0 σ H1 e b1 F1 → Ext bo F H F1 H1 → Rl1 H F1 H1 v d → finT bo cs W σ F1 H1 (k d b1) Q → Q1 v H1) : fin bo cs W Rl1 σ F H r Q1 := by
  cases r with
  | ok d b1 => exact fun v F1 H1 x q r => hk d b1 v F1 H1 (p.step x q) x r (finT_step x h)
  | ex c d b1 => exact h
  | no => exact h.elim
theorem Paired.monoM {m : Mo} (x : Ext bo F H F1 H1) : ∀ {vs : List V} {ds : List P}, Paired (RpM bo F H m) vs ds → Paired (RpM bo F1 H1 m) vs ds
  | _, _, .nil => .nil
  | _, _, .cons r t => .cons (RpM.mono x r) (Paired.monoM x t)
theorem Paired.rpA : ∀ {vs : List V} {ds : List P}, Paired (RpM bo F H .n) vs ds → RpA F vs ds
  | _, _, .nil => .nil
  | _, _, .cons r t => .cons r (Paired.rpA t)
theorem RpA.paired : ∀ {vs : List V} {ds : List P}, RpA F vs ds → Paired (RpM bo F H .n) vs ds
  | _, _, .nil => .nil
  | _, _, .cons r t => .cons r (RpA.paired t)
end

/-! ### rules up to a weaker reading -/
theorem PE.imp {X : Cx} {e : Expr} {t u : TE} (h : PE X e t) (i : ∀ σ H Q, u σ H Q → t σ H Q) : PE X e u := ⟨fun pins s σ H Q I q => h.run pins s σ H Q I (i σ H Q q)⟩
theorem PT.imp {X : Cx} {e : Expr} {t u : TT} (h : PT X e t) (i : ∀ σ H Q, u σ H Q → t σ H Q) : PT X e u := ⟨fun pins s σ H Q I q => h.run pins s σ H Q I (i σ H Q q)⟩
theorem PW.imp {X : Cx} {e : Expr} {t u : TT} (h : PW X e t) (i : ∀ σ H Q, u σ H Q → t σ H Q) : PW X e u := ⟨fun wh pins s σ H Q I q => h.run wh pins s σ H Q I (i σ H Q q)⟩
theorem PA.imp {X : Cx} {es : List Expr} {t u : TA} (h : PA X es t) (i : ∀ σ H Q, u σ H Q → t σ H Q) : PA X es u := ⟨fun pos pins s σ H Q I q => h.run pos pins s σ H Q I (i σ H Q q)⟩
theorem PS.imp {X : Cx} {st : Stmt} {t u : TS} (h : PS X st t) (i : ∀ D σ H, u D σ H → t D σ H) : PS X st u := ⟨fun pins s σ H D I q => h.run pins s σ H D I (i D σ H q)⟩
theorem PSs.imp {X : Cx} {st : List Stmt} {t u : TS} (h : PSs X st t) (i : ∀ D σ H, u D σ H → t D σ H) : PSs X st u := ⟨fun pins s σ H D I q => h.run pins s σ H D I (i D σ H q)⟩
end Dv
/-! text D2 -/
set_option Elab.async false
set_option linter.all false
set_option maxRecDepth 100000
set_option maxHeartbeats 4000000
namespace Dv
open PySem PySem.Spec L2

/-! ### operations over values that stand for data -/
theorem line_eq : (line : Nat) = sizeLine := by rw [sizeLine_eq]; rfl
/-- a new tuple, frozen at once -/
theorem made_tup {F H : Hp} {p : Addr} {vs : List V} {ds : List P} (s : Same F H) (hp : H p = none) (r : RpA F vs ds) :
    ∃ F', Ext none F H F' (upd H p (.tup vs)) ∧ Rp F' (.ref p) (.tuple ds) := by
  have fp : F p = none := s.free hp
  have sf : Same F (upd F p (.tup vs)) := fun c o hc => by
    rw [upd_ne (ne_of_none hc fp)]
    exact hc
  refine ⟨upd F p (.tup vs), ⟨sf, fun c o hc => ?_, fun c o _ hc => ?_, fun c o h1 h2 => ?_⟩, .tup upd_same (r.mono sf)⟩
  · by_cases z : c = p
    · subst z
      rw [upd_same] at hc ⊢
      exact hc
    · rw [upd_ne z] at hc ⊢
      exact s _ _ hc
  · rw [upd_ne (ne_of_none hc hp)]
    exact hc
  · by_cases z : c = p
    · subst z
      exact hp
    · rw [upd_ne z, h1] at h2
      cases h2
/-- a new list, not frozen -/
theorem made_lst {bo : Option Addr} {F H : Hp} {b : Bx} {p : Addr} {vs : List V} {ds : List P} (s : Same F H) (q : BoxRep bo F H b) (hp : H p = none) (r : RpA F vs ds) :
    Ext none F H F (upd H p (.lst vs)) ∧ FrR bo H F (upd H p (.lst vs)) (.ref p) (.list ds) := by
  have fp : F p = none := s.free hp
  refine ⟨⟨Same.refl _, fun c o hc => ?_, fun c o _ hc => ?_, fun c o h1 h2 => ?_⟩, p, vs, rfl, fun z => ?_, hp, fp, upd_same, r⟩
  · rw [upd_ne (ne_of_none hc fp)]
    exact s _ _ hc
  · rw [upd_ne (ne_of_none hc hp)]
    exact hc
  · rw [h1] at h2
    cases h2
  · have := (q _ z.symm).2
    rw [hp] at this
    cases this
/-- what an operation of two values asks and gives -/
def rD (bo : Option Addr) (Rl : Hp → Hp → Hp → V → P → Prop) (f : P → P → Option P) : R2 := fun x y H Q => ∃ F b d d' z, Same F H ∧ BoxRep bo F H b ∧ RpR bo F H x d ∧ RpR bo F H y d' ∧ f d d' = some z ∧
  ∀ w F' H', Ext none F H F' H' → Rl H F' H' w z → Q w H'
def rB (bo : Option Addr) (f : P → P → Option Bool) : R2 := fun x y H Q => ∃ F b d d' z, Same F H ∧ BoxRep bo F H b ∧ RpR bo F H x d ∧ RpR bo F H y d' ∧ f d d' = some z ∧ Q (.bl z) H
section
variable {X : Cx} {bo : Option Addr} {F H : Hp}
theorem RpR.int {v : V} {i : Int} (r : RpR bo F H v (.int i)) : v = .int i := by
  cases (show Rp F v (.int i) from r)
  rfl
theorem RpR.str {v : V} {i : Str} (r : RpR bo F H v (.str i)) : v = .str i := by
  cases (show Rp F v (.str i) from r)
  rfl
theorem RpR.bool {v : V} {i : Bool} (r : RpR bo F H v (.bool i)) : v = .bl i := by
  cases (show Rp F v (.bool i) from r)
  rfl
theorem RpR.tup {v : V} {ds : List P} (r : RpR bo F H v (.tuple ds)) : ∃ a vs, v = .ref a ∧ F a = some (.tup vs) ∧ RpA F vs ds := by
  cases (show Rp F v (.tuple ds) from r) with
  | tup e r => exact ⟨_, _, rfl, e, r⟩
def isNonD : P → Bool
  | .none => true
  | _ => false
theorem RpR.non_iff {v : V} {d : P} (r : RpR bo F H v d) : decide (v = .non) = isNonD d := by
  cases d with
  | none =>
    cases (show Rp F v .none from r)
    rfl
  | bool b =>
    cases (show Rp F v (.bool b) from r)
    rfl
  | int b =>
    cases (show Rp F v (.int b) from r)
    rfl
  | str b =>
    cases (show Rp F v (.str b) from r)
    rfl
  | list ds =>
    obtain ⟨a, vs, rfl, _⟩ := r
    rfl
  | tuple ds =>
    obtain ⟨a, vs, rfl, _⟩ := r.tup
    rfl
  | dict ds => cases (show Rp F v (.dict ds) from r)
theorem mulOk_iff {i j : Int} (h : mulOk i j = true) : CMul i j := by
  unfold mulOk at h
  unfold CMul
  rw [Bool.or_eq_true] at h
  rcases h with h | h
  · have := leN_iff h
    exact .inl ⟨by omega, by omega⟩
  · have := leN_iff h
    exact .inr ⟨by omega, by omega⟩
theorem op_addD : OpR X (binaryOp .Add) (rD bo (lF bo) (binD .add)) := by
  intro pins s σ H x y v u Q I rx ry h
  obtain ⟨F, b, d, d', z, sF, q, r1, r2, e, k⟩ := h
  unfold binD at e
  split at e <;> first | (cases e; done) | skip
  all_goals (try (rename_i h; cases h))
  all_goals first
    | (rename_i i j
       cases e
       rw [r1.int] at rx
       rw [r2.int] at ry
       exact op_add pins s σ H _ _ v u Q I rx ry ⟨_, _, rfl, rfl, k _ F H (Ext.refl sF) (.int _)⟩)
    | skip
  · rename_i xs ys
    split at e
    · cases e
      obtain ⟨a, vs, rfl, n, h, r⟩ := r1
      obtain ⟨a', vs', rfl, n', h', r'⟩ := r2
      refine op_cat pins s σ H _ _ v u Q I rx ry ⟨a, a', vs, vs', rfl, rfl, h, h', ?_, fun p hp => ?_⟩
      · rw [r.length, r'.length, ← line_eq]
        assumption
      · obtain ⟨m1, m2⟩ := made_lst sF q hp (r.append r')
        exact k _ _ _ m1 m2
    · cases e
  · rename_i xs ys
    split at e
    · cases e
      obtain ⟨a, vs, rfl, h, r⟩ := r1.tup
      obtain ⟨a', vs', rfl, h', r'⟩ := r2.tup
      refine op_catA pins s σ H _ _ v u Q I rx ry ⟨a, a', vs, vs', rfl, rfl, SqT.of (sF _ _ h), SqT.of (sF _ _ h'), ?_, fun e0 => ?_, fun _ e0 => ?_, fun _ _ p hp => ?_⟩
      · rw [r.length, r'.length, ← line_eq]
        assumption
      · subst e0
        cases r
        exact k _ F H (Ext.refl sF) (.tup h' r')
      · subst e0
        cases r'
        rw [List.append_nil] at k
        exact k _ F H (Ext.refl sF) (.tup h r)
      · obtain ⟨F', m1, m2⟩ := made_tup sF hp (r.append r')
        exact k _ _ _ m1 m2
    · cases e
  · rename_i xs ys
    split at e
    · cases e
      rw [r1.str] at rx
      rw [r2.str] at ry
      refine op_add_str pins s σ H _ _ v u Q I rx ry ⟨_, _, rfl, rfl, ?_, k _ F H (Ext.refl sF) (.str _)⟩
      rw [← line_eq]
      assumption
    · cases e
theorem op_subD : OpR X (binaryOp .Sub) (rD bo (lF bo) (binD .sub)) := by
  intro pins s σ H x y v u Q I rx ry h
  obtain ⟨F, b, d, d', z, sF, q, r1, r2, e, k⟩ := h
  unfold binD at e
  split at e <;> first | (cases e; done) | skip
  all_goals (try (rename_i h; cases h))
  rename_i i j
  cases e
  rw [r1.int] at rx
  rw [r2.int] at ry
  exact op_sub pins s σ H _ _ v u Q I rx ry ⟨_, _, rfl, rfl, k _ F H (Ext.refl sF) (.int _)⟩
theorem op_modD : OpR X (binaryOp .Mod) (rD bo (lF bo) (binD .mod)) := by
  intro pins s σ H x y v u Q I rx ry h
  obtain ⟨F, b, d, d', z, sF, q, r1, r2, e, k⟩ := h
  unfold binD at e
  split at e <;> first | (cases e; done) | skip
  all_goals (try (rename_i h; cases h))
  rename_i i j
  split at e
  · rename_i hj
    cases e
    rw [r1.int] at rx
    rw [r2.int] at ry
    exact op_modN pins s σ H _ _ v u Q I rx ry ⟨_, _, rfl, rfl, of_decide_eq_true hj, k _ F H (Ext.refl sF) (.int _)⟩
  · cases e
theorem op_fdivD : OpR X (binaryOp .FloorDiv) (rD bo (lF bo) (binD .fdiv)) := by
  intro pins s σ H x y v u Q I rx ry h
  obtain ⟨F, b, d, d', z, sF, q, r1, r2, e, k⟩ := h
  unfold binD at e
  split at e <;> first | (cases e; done) | skip
  all_goals (try (rename_i h; cases h))
  rename_i i j
  split at e
  · rename_i hj
    cases e
    rw [Bool.and_eq_true] at hj
    rw [r1.int] at rx
    rw [r2.int] at ry
    exact op_fdivN pins s σ H _ _ v u Q I rx ry ⟨_, _, rfl, rfl, ⟨of_decide_eq_true hj.1, of_decide_eq_true hj.2⟩, k _ F H (Ext.refl sF) (.int _)⟩
  · cases e
theorem op_powD : OpR X (binaryOp .Pow) (rD bo (lF bo) (binD .pow)) := by
  intro pins s σ H x y v u Q I rx ry h
  obtain ⟨F, b, d, d', z, sF, q, r1, r2, e, k⟩ := h
  unfold binD at e
  split at e <;> first | (cases e; done) | skip
  all_goals (try (rename_i h; cases h))
  rename_i i j
  split at e
  · rename_i hj
    cases e
    rw [Bool.and_eq_true, Bool.and_eq_true] at hj
    rw [r1.int] at rx
    rw [r2.int] at ry
    have h3 : i.natAbs < 18446744073709551616 := of_decide_eq_true hj.2
    exact op_pow pins s σ H _ _ v u Q I rx ry ⟨_, _, rfl, rfl, ⟨of_decide_eq_true hj.1.1, of_decide_eq_true hj.1.2, by omega⟩, k _ F H (Ext.refl sF) (.int _)⟩
  · cases e
theorem RpA.rep {vs : List V} {ds : List P} (r : RpA F vs ds) : ∀ n : Nat, RpA F (List.replicate n vs).flatten (List.replicate n ds).flatten
  | 0 => .nil
  | n + 1 => by
    rw [List.replicate_succ, List.replicate_succ, List.flatten_cons, List.flatten_cons]
    exact r.append (RpA.rep r n)
/-! tuple * int: all factors -/
theorem tuple_mulS (l : Addr) (items : Array Value) (n : Nat) (dd : Option Addr) (sl : Array (Option Value)) (x : Int) (u : Tok) (c0 : (decide (x < -(2 ^ 63)) || decide (x ≥ 2 ^ 63)) = false) (c1 : (items.isEmpty || x == 1) = true) :
    Meets (Builtin.«tuple.__mul__» ⟨[.ref l, .int x u], []⟩) (fun _ R s => s.heap.get? l = some { cls := .type "tuple", dict := dd, data := .seq items n, slots := sl } ∧ R (.ok (.ret (Value.ref l))) s) :=
  .of_wp fun prog w A R s h => by
    obtain ⟨hp, g, d, tk, os⟩ := s
    obtain ⟨hl, h⟩ := h
    have f1 := AutoSeq1.idx_int
    wp_walk using wpAny_loadPart' hl
    repeat (first
      | (refine wpAny_ite_false (decide_eq_false (by rw [c0]; exact Bool.false_ne_true)) ?_; wp_walk using wpAny_loadPart' hl)
      | (refine wpAny_ite_true (decide_eq_true c1) ?_; wp_walk using wpAny_loadPart' hl))
    exact ⟨_, rfl, h⟩
theorem tuple_mul0 (l : Addr) (items : Array Value) (n : Nat) (dd : Option Addr) (sl : Array (Option Value)) (x : Int) (u : Tok) (c0 : (decide (x < -(2 ^ 63)) || decide (x ≥ 2 ^ 63)) = false) (c1 : (items.isEmpty || x == 1) = false) (c2 : (decide (x ≤ 0) || items.isEmpty) = true) :
    Meets (Builtin.«tuple.__mul__» ⟨[.ref l, .int x u], []⟩) (fun _ R s => s.heap.get? l = some { cls := .type "tuple", dict := dd, data := .seq items n, slots := sl } ∧
      R (.ok (.ret (Value.ref s.heap.objs.size))) { s with heap := s.heap.push { cls := Value.type "tuple", data := Data.seq #[] }, toks := s.toks }) :=
  .of_wp fun prog w A R s h => by
    obtain ⟨hp, g, d, tk, os⟩ := s
    obtain ⟨hl, h⟩ := h
    have f1 := AutoSeq1.idx_int
    have hsz : (#[] : Array Value).size ≤ sizeLine := Nat.zero_le _
    wp_walk using wpAny_loadPart' hl
    repeat (first
      | (refine wpAny_ite_false (decide_eq_false (by rw [c0]; exact Bool.false_ne_true)) ?_; wp_walk using wpAny_loadPart' hl)
      | (refine wpAny_ite_false (decide_eq_false (by rw [c1]; exact Bool.false_ne_true)) ?_; wp_walk using wpAny_loadPart' hl)
      | (refine wpAny_ite_true (decide_eq_true c2) ?_; wp_walk using wpAny_loadPart' hl)
      | (refine wpAny_ite_false (decide_eq_false (Nat.not_lt.mpr hsz)) ?_; wp_walk using wpAny_loadPart' hl))
    exact ⟨_, rfl, h⟩
theorem flat_one {α : Type} {xs : List α} {j : Int} (h : xs = [] ∨ j = 1) : (List.replicate j.toNat xs).flatten = xs := by
  rcases h with h | h
  · subst h
    induction j.toNat with
    | zero => rfl
    | succ n ih =>
      rw [List.replicate_succ, List.flatten_cons, ih]
      rfl
  · subst h
    show (List.replicate 1 xs).flatten = xs
    simp
theorem op_tmul {pins : List (Addr × Obj)} {s : Shared} {σ : L2.St} {Q : VK} {v u : Value} {a : Addr} {vs : List V} {xs : List P} {j : Int} {b : Bx} (I : Inv X pins σ H s) (rx : RelV (.ref a) v) (ry : RelV (.int j) u) (sF : Same F H) (q : BoxRep bo F H b) (hT : F a = some (.tup vs)) (ra : RpA F vs xs)
    (h1 : -9223372036854775808 ≤ j) (h2 : j < 9223372036854775808) (h3 : xs.length * j.toNat ≤ line) (k : ∀ w F' H', Ext none F H F' H' → FrR bo H F' H' w (.tuple (List.replicate j.toNat xs).flatten) → Q w H') :
    wpAny (model X.prog X.w) X.A (binaryOp .Mult v u) (EP X pins σ Q) X.xe s := by
  cases rx
  obtain ⟨t, rfl⟩ := ry
  obtain ⟨its, r, ⟨⟨cls, dd, data, sl⟩, ho, hc, n, hd⟩, hs⟩ := I.tuple (SqT.of (sF _ _ hT))
  simp only at hc hd
  subst hc hd
  have hle : its.length = xs.length := r.length.symm.trans ra.length
  have c0 : (decide (j < -(2 ^ 63)) || decide (j ≥ 2 ^ 63)) = false := by
    rw [decide_eq_false (by omega), decide_eq_false (by omega)] <;> rfl
  have road : ∀ {R : Value → Shared → Prop}, wpAny (model X.prog X.w) X.A (call (.builtin "tuple.__mul__") [.ref a, .int j t]) R X.xe s → wpAny (model X.prog X.w) X.A (binaryOp .Mult (.ref a) (.int j t)) R X.xe s := fun {R} w =>
    wpAny_binaryOp_repeat_ref (T := "tuple") (U := "int") (by decide) ⟨_, ho, rfl⟩ (fun s' => typeIs_int s' j t) noFill_tuple_mul PySem.F.fills_int_mul PySem.F.slot_int_rmul repeat_tuple PySem.F.slot_int_index.lookup
    (call_meets PySem.F.slot_int_rmul (typeIs_int s j t) PySem.F.entry_int_rmul (PySem.F.args_int_rmul_2 _ _) (int_rmul_tuple j t a its.toArray n dd sl) ⟨ho, rfl, ⟨_, ho, rfl⟩, w⟩)
  by_cases hone : xs = [] ∨ j = 1
  · have c1 : (its.toArray.isEmpty || j == 1) = true := by
      rcases hone with e | e
      · have : its = [] := List.eq_nil_of_length_eq_zero (by rw [hle, e]; rfl)
        rw [this]
        rfl
      · rw [e, Bool.or_eq_true]
        exact .inr rfl
    refine road (call_meets PySem.F.slot_tuple_mul ⟨_, ho, rfl⟩ PySem.F.entry_tuple_mul (PySem.F.args_tuple_mul_2 _ _) (tuple_mulS a its.toArray n dd sl j t c0 c1) ⟨ho, ?_⟩)
    refine ⟨.ref a, H, I, rfl, k _ F H (Ext.refl sF) ?_⟩
    rw [flat_one hone]
    exact .tup hT ra
  · have hne : xs ≠ [] := fun e => hone (.inl e)
    have hj1 : j ≠ 1 := fun e => hone (.inr e)
    have hi : its.toArray.isEmpty = false := by
      cases its with
      | nil => exact absurd (List.eq_nil_of_length_eq_zero (by rw [← hle]; rfl)) hne
      | cons a b => rfl
    have c1 : (its.toArray.isEmpty || j == 1) = false := by
      rw [hi, Bool.false_or]
      exact beq_eq_false_iff_ne.mpr hj1
    by_cases hj0 : j ≤ 0
    · have c2 : (decide (j ≤ 0) || its.toArray.isEmpty) = true := by
        rw [decide_eq_true hj0]
        rfl
      refine road (call_meets PySem.F.slot_tuple_mul ⟨_, ho, rfl⟩ PySem.F.entry_tuple_mul (PySem.F.args_tuple_mul_2 _ _) (tuple_mul0 a its.toArray n dd sl j t c0 c1 c2) ⟨ho, ?_⟩)
      obtain ⟨F', m1, m2⟩ := made_tup (p := s.heap.objs.size) (vs := []) (ds := []) sF (I.hok.fresh (Nat.le_refl _)) .nil
      have e0 : (List.replicate j.toNat xs).flatten = [] := by
        have : j.toNat = 0 := by omega
        rw [this]
        rfl
      refine ⟨.ref s.heap.objs.size, _, I.laid (t' := s.toks) (o := .tup []) (fun b ob q => Heap.get?_push_of_some _ q) (Nat.le_refl _) ⟨Nat.zero_le _, [], .nil, PyProof.Rows.IsTup.new _ _⟩, rfl, k _ F' _ m1 ?_⟩
      rw [e0]
      exact m2
    · have c2 : (decide (j ≤ 0) || its.toArray.isEmpty) = false := by
        rw [hi, Bool.or_false]
        exact decide_eq_false hj0
      have hsz : its.toArray.size = xs.length := by rw [List.size_toArray, hle]
      have hmul : ((its.toArray.size : Nat) : Int) * j = ((xs.length * j.toNat : Nat) : Int) := by
        rw [hsz, Int.natCast_mul]
        congr 1
        omega
      have hln : (line : Int) = 16777216 := rfl
      have c3 : ¬ ((its.toArray.size : Nat) : Int) * j > (2 ^ 63 - 1) / 8 := by
        rw [hmul]
        omega
      have c4 : Builtin.Tuple.tupleTooMany (((its.toArray.size : Nat) : Int) * j) = false := by
        unfold Builtin.Tuple.tupleTooMany
        rw [hmul, ← line_eq]
        exact decide_eq_false (by omega)
      have flen : (List.replicate j.toNat its).flatten.length ≤ sizeLine := by
        rw [PyProof.Rows.lm_len_rep_flat, hle, ← line_eq, Nat.mul_comm]
        exact h3
      refine road (call_meets PySem.F.slot_tuple_mul ⟨_, ho, rfl⟩ PySem.F.entry_tuple_mul (PySem.F.args_tuple_mul_2 _ _) (tuple_mulW a its.toArray n dd sl j t c0 c1 c2 c3 c4 (by rw [size_rep, List.size_toArray]; exact flen)) ⟨ho, ?_⟩)
      rw [size_rep]
      obtain ⟨F', m1, m2⟩ := made_tup (p := s.heap.objs.size) sF (I.hok.fresh (Nat.le_refl _)) (ra.rep j.toNat)
      refine ⟨.ref s.heap.objs.size, _, I.laid (t' := s.toks) (o := .tup (List.replicate j.toNat vs).flatten) (fun b ob q => Heap.get?_push_of_some _ q) (Nat.le_refl _) ?_, rfl, k _ F' _ m1 m2⟩
      exact ⟨by rw [(ra.rep j.toNat).length, PyProof.Rows.lm_len_rep_flat, ← line_eq, Nat.mul_comm]; exact h3, _, r.rep j.toNat, PyProof.Rows.IsTup.new _ _⟩
theorem op_mulD : OpR X (binaryOp .Mult) (rD bo (lF bo) (binD .mul)) := by
  intro pins s σ H x y v u Q I rx ry h
  obtain ⟨F, b, d, d', z, sF, q, r1, r2, e, k⟩ := h
  cases d with
  | int i =>
    cases d' with
    | int j =>
      have e : (if mulOk i j then some (PyData.int (i * j)) else none) = some z := e
      split at e
      · rename_i hj
        cases e
        rw [r1.int] at rx
        rw [r2.int] at ry
        exact op_mul pins s σ H _ _ v u Q I rx ry ⟨_, _, rfl, rfl, mulOk_iff hj, k _ F H (Ext.refl sF) (.int _)⟩
      · cases e
    | _ => cases (show none = some z from e)
  | list xs =>
    cases d' with
    | int j =>
      have e : (repD xs j).map PyData.list = some z := e
      unfold repD at e
      split at e
      · rename_i hj
        rw [Bool.and_eq_true] at hj
        have hb := leN_iff hj.1
        have h1 : -9223372036854775808 ≤ j := by omega
        have h2 : j < 9223372036854775808 := by omega
        have h3 : xs.length * j.toNat ≤ line := Nat.le_of_ble_eq_true hj.2
        cases e
        obtain ⟨a, vs, rfl, n, h, r⟩ := r1
        rw [r2.int] at ry
        refine op_rep pins s σ H _ _ v u Q I rx ry ⟨a, j, vs, rfl, rfl, h, by omega, by omega, ?_, fun p hp => ?_⟩
        · rw [r.length, ← line_eq]
          exact h3
        · obtain ⟨m1, m2⟩ := made_lst sF q hp (r.rep j.toNat)
          exact k _ _ _ m1 m2
      · cases e
    | _ => cases (show none = some z from e)
  | tuple xs =>
    cases d' with
    | int j =>
      have e : (repD xs j).map PyData.tuple = some z := e
      unfold repD at e
      split at e
      · rename_i hj
        rw [Bool.and_eq_true] at hj
        have hb := leN_iff hj.1
        have h1 : -9223372036854775808 ≤ j := by omega
        have h2 : j < 9223372036854775808 := by omega
        have h3 : xs.length * j.toNat ≤ line := Nat.le_of_ble_eq_true hj.2
        cases e
        obtain ⟨a, vs, rfl, h, r⟩ := r1.tup
        rw [r2.int] at ry
        exact op_tmul I rx ry sF q h r h1 h2 h3 k
      · cases e
    | _ => cases (show none = some z from e)
  | none => cases d' <;> cases (show none = some z from e)
  | bool _ => cases d' <;> cases (show none = some z from e)
  | str _ => cases d' <;> cases (show none = some z from e)
  | dict _ => cases d' <;> cases (show none = some z from e)

/-! comparisons -/
theorem op_eqDD (hu : X.A.units + 64 < cLine) : OpR X (compareOp .Eq) (rB bo (cmpD .eq)) := by
  intro pins s σ H x y v u Q I rx ry h
  obtain ⟨F, b, d, d', z, sF, q, r1, r2, e, k⟩ := h
  unfold cmpD eqD at e
  simp only at e
  split at e
  · rename_i hs
    rw [Bool.and_eq_true] at hs
    cases e
    exact op_eqD hu pins s σ H x y v u Q I rx ry ⟨d, d', r1.dp sF, r2.dp sF, hs.1, hs.2, k⟩
  · cases e
theorem op_neDD (hu : X.A.units + 64 < cLine) : OpR X (compareOp .NotEq) (rB bo (cmpD .ne)) := by
  intro pins s σ H x y v u Q I rx ry h
  obtain ⟨F, b, d, d', z, sF, q, r1, r2, e, k⟩ := h
  unfold cmpD eqD at e
  simp only at e
  split at e
  · rename_i hs
    rw [Bool.and_eq_true] at hs
    cases e
    exact op_neD hu pins s σ H x y v u Q I rx ry ⟨d, d', r1.dp sF, r2.dp sF, hs.1, hs.2, k⟩
  · cases e
theorem op_ltDD (hu : X.A.units + 64 < cLine) : OpR X (compareOp .Lt) (rB bo (cmpD .lt)) := by
  intro pins s σ H x y v u Q I rx ry h
  obtain ⟨F, b, d, d', z, sF, q, r1, r2, e, k⟩ := h
  unfold cmpD at e
  simp only at e
  split at e
  · cases e
    rw [r1.int] at rx
    rw [r2.int] at ry
    exact op_lt pins s σ H _ _ v u Q I rx ry ⟨_, _, rfl, rfl, k⟩
  · split at e
    · rename_i ho
      cases e
      unfold ordD at ho
      rw [Bool.and_eq_true, Bool.and_eq_true] at ho
      obtain ⟨⟨h1, h2⟩, h3⟩ := ho
      obtain ⟨as, q1⟩ := Dp.reads I _ x v (r1.dp (K := X.K) sF) rx
      obtain ⟨bs, q2⟩ := Dp.reads I _ y u (r2.dp (K := X.K) sF) ry
      refine PySem.W.lt_data q1 q2 h1 (fun z => by rw [z] at h2; cases h2) ?_ ⟨.bl _, H, I, rfl, k⟩
      have h3 := of_decide_eq_true h3
      have := Nat.min_le_left d.depth d'.depth
      omega
    · cases e
theorem op_leDD (hu : X.A.units + 64 < cLine) : OpR X (compareOp .LtE) (rB bo (cmpD .le)) := by
  intro pins s σ H x y v u Q I rx ry h
  obtain ⟨F, b, d, d', z, sF, q, r1, r2, e, k⟩ := h
  unfold cmpD at e
  simp only at e
  split at e
  · cases e
    rw [r1.int] at rx
    rw [r2.int] at ry
    exact op_le pins s σ H _ _ v u Q I rx ry ⟨_, _, rfl, rfl, k⟩
  · split at e
    · rename_i ho
      cases e
      unfold ordD at ho
      rw [Bool.and_eq_true, Bool.and_eq_true] at ho
      obtain ⟨⟨h1, h2⟩, h3⟩ := ho
      obtain ⟨as, q1⟩ := Dp.reads I _ x v (r1.dp (K := X.K) sF) rx
      obtain ⟨bs, q2⟩ := Dp.reads I _ y u (r2.dp (K := X.K) sF) ry
      refine PySem.W.le_data q1 q2 h1 (fun z => by rw [z] at h2; cases h2) ?_ ⟨.bl _, H, I, rfl, k⟩
      have h3 := of_decide_eq_true h3
      have := Nat.min_le_left d.depth d'.depth
      omega
    · cases e
theorem op_gtDD (hu : X.A.units + 64 < cLine) : OpR X (compareOp .Gt) (rB bo (cmpD .gt)) := by
  intro pins s σ H x y v u Q I rx ry h
  obtain ⟨F, b, d, d', z, sF, q, r1, r2, e, k⟩ := h
  unfold cmpD at e
  simp only at e
  split at e
  · cases e
    rw [r1.int] at rx
    rw [r2.int] at ry
    exact op_gt pins s σ H _ _ v u Q I rx ry ⟨_, _, rfl, rfl, k⟩
  · split at e
    · rename_i ho
      cases e
      unfold ordD at ho
      rw [Bool.and_eq_true, Bool.and_eq_true] at ho
      obtain ⟨⟨h1, h2⟩, h3⟩ := ho
      obtain ⟨as, q1⟩ := Dp.reads I _ x v (r1.dp (K := X.K) sF) rx
      obtain ⟨bs, q2⟩ := Dp.reads I _ y u (r2.dp (K := X.K) sF) ry
      refine PySem.W.gt_data q1 q2 h1 (fun z => by rw [z] at h2; cases h2) ?_ ⟨.bl _, H, I, rfl, k⟩
      have h3 := of_decide_eq_true h3
      have := Nat.min_le_left d.depth d'.depth
      omega
    · cases e
theorem op_geDD (hu : X.A.units + 64 < cLine) : OpR X (compareOp .GtE) (rB bo (cmpD .ge)) := by
  intro pins s σ H x y v u Q I rx ry h
  obtain ⟨F, b, d, d', z, sF, q, r1, r2, e, k⟩ := h
  unfold cmpD at e
  simp only at e
  split at e
  · cases e
    rw [r1.int] at rx
    rw [r2.int] at ry
    exact op_ge pins s σ H _ _ v u Q I rx ry ⟨_, _, rfl, rfl, k⟩
  · split at e
    · rename_i ho
      cases e
      unfold ordD at ho
      rw [Bool.and_eq_true, Bool.and_eq_true] at ho
      obtain ⟨⟨h1, h2⟩, h3⟩ := ho
      obtain ⟨as, q1⟩ := Dp.reads I _ x v (r1.dp (K := X.K) sF) rx
      obtain ⟨bs, q2⟩ := Dp.reads I _ y u (r2.dp (K := X.K) sF) ry
      refine PySem.W.ge_data q1 q2 h1 (fun z => by rw [z] at h2; cases h2) ?_ ⟨.bl _, H, I, rfl, k⟩
      have h3 := of_decide_eq_true h3
      have := Nat.min_le_left d.depth d'.depth
      omega
    · cases e
theorem op_isDD : OpR X (compareOp .Is) (rB bo (cmpD .is_)) := by
  intro pins s σ H x y v u Q I rx ry h
  obtain ⟨F, b, d, d', z, sF, q, r1, r2, e, k⟩ := h
  unfold cmpD at e
  simp only at e
  split at e
  · have e := Option.some.inj e
    have hy : y = .non := by
      cases (show Rp F y .none from r2)
      rfl
    refine op_isN pins s σ H x y v u Q I rx ry ⟨hy, ?_⟩
    rw [r1.non_iff]
    rw [← e] at k
    cases d <;> exact k
  · cases e
theorem op_isnDD : OpR X (compareOp .IsNot) (rB bo (cmpD .isn)) := by
  intro pins s σ H x y v u Q I rx ry h
  obtain ⟨F, b, d, d', z, sF, q, r1, r2, e, k⟩ := h
  unfold cmpD at e
  simp only at e
  split at e
  · have e := Option.some.inj e
    have hy : y = .non := by
      cases (show Rp F y .none from r2)
      rfl
    refine op_notN pins s σ H x y v u Q I rx ry ⟨hy, ?_⟩
    rw [r1.non_iff]
    rw [← e] at k
    cases d <;> exact k
  · cases e
theorem signIn_eq {a c : Str} {z : Bool} (h : signIn a c = some z) : ∃ n, a = ⟨#[n]⟩ ∧ z = decide (n ∈ c.cps.toList) := by
  unfold signIn at h
  split at h
  · rename_i n hn
    refine ⟨n, ?_, ?_⟩
    · obtain ⟨l⟩ := a
      have : l = #[n] := by
        apply Array.toList_inj.mp
        exact hn
      rw [this]
    · rw [← Option.some.inj h, List.contains_eq_mem]
  · cases h
theorem op_inDD (hu : X.A.units + 65 < cLine) : OpR X (compareOp .In) (rB bo (cmpD .in_)) := by
  intro pins s σ H x y v u Q I rx ry h
  obtain ⟨F, b, d, d', z, sF, q, r1, r2, e, k⟩ := h
  unfold cmpD at e
  simp only at e
  split at e
  · obtain ⟨n, rfl, rfl⟩ := signIn_eq e
    rw [r1.str] at rx
    rw [r2.str] at ry
    exact op_in_sign pins s σ H _ _ v u Q I rx ry ⟨n, _, rfl, rfl, k⟩
  · rename_i ys
    split at e
    · rename_i hs
      rw [Bool.and_eq_true] at hs
      have e := Option.some.inj e
      rw [← e] at k
      exact op_inD hu pins s σ H x y v u Q I rx ry ⟨d, ys, r1.dp sF, r2.dp sF, hs.1, hs.2, k⟩
    · cases e
  · rename_i ys
    split at e
    · rename_i hs
      rw [Bool.and_eq_true] at hs
      have e := Option.some.inj e
      rw [← e] at k
      obtain ⟨as, q1⟩ := Dp.reads I d x v (r1.dp sF) rx
      obtain ⟨bs, q2⟩ := Dp.reads I (.tuple ys) y u (r2.dp sF) ry
      exact SeqAt.in_tuple_reads q2 q1 (SeqAt.canLay_of_shaped hs.2) (SeqAt.canLay_of_shaped hs.1) (PyProof.Rows.room_in_shaped hs.1 hu) ⟨.bl _, H, I, rfl, k⟩
    · cases e
  · cases e
theorem op_ninDD (hu : X.A.units + 65 < cLine) : OpR X (compareOp .NotIn) (rB bo (cmpD .nin)) := by
  intro pins s σ H x y v u Q I rx ry h
  obtain ⟨F, b, d, d', z, sF, q, r1, r2, e, k⟩ := h
  unfold cmpD at e
  simp only at e
  split at e
  · cases hq : signIn _ _ with
    | none =>
      rw [hq] at e
      cases e
    | some t =>
      rw [hq] at e
      have e := Option.some.inj e
      obtain ⟨n, rfl, rfl⟩ := signIn_eq hq
      rw [r1.str] at rx
      rw [r2.str] at ry
      rw [← e] at k
      exact op_notIn_sign pins s σ H _ _ v u Q I rx ry ⟨n, _, rfl, rfl, k⟩
  · rename_i ys
    split at e
    · rename_i hs
      rw [Bool.and_eq_true] at hs
      have e := Option.some.inj e
      rw [← e] at k
      exact op_notInD hu pins s σ H x y v u Q I rx ry ⟨d, ys, r1.dp sF, r2.dp sF, hs.1, hs.2, k⟩
    · cases e
  · rename_i ys
    split at e
    · rename_i hs
      rw [Bool.and_eq_true] at hs
      have e := Option.some.inj e
      rw [← e] at k
      obtain ⟨as, q1⟩ := Dp.reads I d x v (r1.dp sF) rx
      obtain ⟨bs, q2⟩ := Dp.reads I (.tuple ys) y u (r2.dp sF) ry
      exact SeqAt.notIn_tuple_reads q2 q1 (SeqAt.canLay_of_shaped hs.2) (SeqAt.canLay_of_shaped hs.1) (PyProof.Rows.room_in_shaped hs.1 hu) ⟨.bl _, H, I, rfl, k⟩
    · cases e
  · cases e
/-- a value's truth -/
theorem truV_of {K : PySem.W.Frag} {v : V} {d : P} {t : Bool} (s : Same F H) (r : RpR bo F H v d) (h : truD d = some t) : TruV K v H t := by
  cases d with
  | none =>
    cases (show Rp F v .none from r)
    exact (Option.some.inj h).symm
  | bool b =>
    rw [r.bool]
    exact (Option.some.inj h).symm
  | int i =>
    rw [r.int]
    exact (Option.some.inj h).symm
  | str x =>
    rw [r.str]
    have h : (if x.length ≤ line then some ((x.length : Int) != 0) else none) = some t := h
    split at h
    · rename_i hl
      exact ⟨by rw [← line_eq]; exact hl, (Option.some.inj h).symm⟩
    · cases h
  | list ds =>
    obtain ⟨a, vs, rfl, n, e, r⟩ := r
    refine .inl ⟨vs, SqL.of e, ?_⟩
    rw [← Option.some.inj h]
    cases r <;> rfl
  | tuple ds =>
    obtain ⟨a, vs, rfl, e, r⟩ := r.tup
    refine .inr (.inl ⟨vs, SqT.of (s _ _ e), ?_⟩)
    rw [← Option.some.inj h]
    cases r <;> rfl
  | dict ds => cases h

/-! items and slices -/
theorem RpA.atI {vs : List V} {ds : List P} {i : Int} {d : P} (r : RpA F vs ds) (h : L2.atI ds i = some d) : ∃ v, L2.atI vs i = some v ∧ Rp F v d := by
  unfold L2.atI at h ⊢
  rw [r.length]
  cases e : ixN ds.length i with
  | none =>
    rw [e] at h
    cases h
  | some j =>
    rw [e] at h
    obtain ⟨v, h1, h2⟩ := r.get h
    exact ⟨v, h1, h2⟩
theorem ix_D : IxR X (rD bo (lM bo .n) idxD) := by
  intro value slice pins s σ H x y v u Q I rx ry h hs
  obtain ⟨F, b, d, d', z, sF, q, r1, r2, e, k⟩ := h
  unfold idxD at e
  split at e
  · obtain ⟨a, vs, rfl, n, h, r⟩ := r1
    rw [r2.int] at ry
    obtain ⟨w, e1, e2⟩ := r.atI e
    exact ix_list value slice pins s σ H _ _ v u Q I rx ry ⟨a, vs, _, w, rfl, rfl, SqL.of h, e1, k _ F H (Ext.refl sF) e2⟩ hs
  · obtain ⟨a, vs, rfl, h, r⟩ := r1.tup
    rw [r2.int] at ry
    obtain ⟨w, e1, e2⟩ := r.atI e
    exact ix_tup value slice pins s σ H _ _ v u Q I rx ry ⟨a, vs, _, w, rfl, rfl, SqT.of (sF _ _ h), e1, k _ F H (Ext.refl sF) e2⟩ hs
  · split at e
    · rename_i hl
      rw [r1.str] at rx
      rw [r2.int] at ry
      cases e1 : L2.atI _ _ with
      | none =>
        rw [e1] at e
        cases e
      | some c =>
        rw [e1] at e
        cases e
        exact ix_str value slice pins s σ H _ _ v u Q I rx ry ⟨_, _, c, rfl, rfl, by rw [← line_eq]; exact hl, e1, k _ F H (Ext.refl sF) (.str _)⟩ hs
    · cases e
  · cases e
theorem RpA.cut {vs : List V} {ds : List P} {lo hi : Option Int} (r : RpA F vs ds) : RpA F (cutV vs lo hi) (cutD ds lo hi) := by
  unfold cutV cutD
  rw [r.length]
  exact (r.drop _).take _
theorem cutD_whole {ds : List P} {lo hi : Option Int} (h : HT.sIx ds.length 0 lo = 0 ∧ HT.sIx ds.length ds.length hi = ds.length) : cutD ds lo hi = ds := by
  unfold cutD
  rw [h.1, h.2, List.drop_zero, Nat.sub_zero, List.take_length]
def rSlD (bo : Option Addr) : V → Option Int → Option Int → Hp → VK → Prop := fun x lo hi H Q => ∃ F b d z, Same F H ∧ BoxRep bo F H b ∧ RpR bo F H x d ∧
  (match d with | .list xs => some (PyData.list (cutD xs lo hi)) | .tuple xs => some (.tuple (cutD xs lo hi)) | _ => none) = some z ∧ ∀ w F' H', Ext none F H F' H' → FrR bo H F' H' w z → Q w H'
theorem sl_D : SlR X (rSlD bo) := by
  intro pins s σ H x v vl vu lo hi sl Q I rx hs pl pu h
  obtain ⟨F, b, d, z, sF, q, r1, e, k⟩ := h
  split at e
  · cases e
    obtain ⟨a, vs, rfl, n, h, r⟩ := r1
    refine sl_list pins s σ H _ v vl vu lo hi sl Q I rx hs pl pu ⟨a, vs, rfl, SqL.of h, fun p hp => ?_⟩
    obtain ⟨m1, m2⟩ := made_lst sF q hp r.cut
    exact k _ _ _ m1 m2
  · cases e
    obtain ⟨a, vs, rfl, h, r⟩ := r1.tup
    refine sl_tupA pins s σ H _ v vl vu lo hi sl Q I rx hs pl pu ⟨a, vs, rfl, SqT.of (sF _ _ h), fun hw => ?_, fun _ p hp => ?_⟩
    · rw [r.length] at hw
      rw [cutD_whole hw] at k
      exact k _ F H (Ext.refl sF) (.tup h r)
    · obtain ⟨F', m1, m2⟩ := made_tup sF hp r.cut
      exact k _ _ _ m1 m2
  · cases e
end
end Dv
/-! text D3 -/
set_option Elab.async false
set_option linter.all false
set_option maxRecDepth 100000
set_option maxHeartbeats 4000000
namespace Dv
open PySem PySem.Spec L2

/-! ### expressions: one rule a construct, over lifted readings -/
def plainT : Expr → Bool
  | .UnaryOp .Not _ _ => false
  | .BoolOp _ _ _ => false
  | .IfExp _ _ _ _ => false
  | .Compare _ _ _ _ => false
  | _ => true
theorem isTrue_of_plain {e : Expr} {env : PySem.Env} (h : plainT e = true) (whole : Sem Value) : isTrue e env whole = (do let v ← whole; standAt e.pos; holding [v] (truthy v)) := by
  cases e with
  | UnaryOp op x p =>
    cases op <;> first
      | rfl
      | cases h
  | _ => first
    | rfl
    | cases h
def notSet : Expr → Bool
  | .Set _ _ _ => false
  | _ => true
theorem notSet_marks {op : CmpOp} {e : Expr} (h : notSet e = true) : behindInMarks op e = false := by
  cases e <;> first
    | rfl
    | cases h
theorem notSet_folded {e : Expr} {env : PySem.Env} (h : notSet e = true) (x : Value) : foldedSetIterable e env x = pure x := by
  cases e <;> first
    | rfl
    | cases h
def notStar : Expr → Bool
  | .Starred _ _ => false
  | _ => true
theorem starEach_of {e : Expr} {es : List Expr} {env : PySem.Env} (h : notStar e = true) : starEach (e :: es) env = (false, eval e env) :: starEach es env := by
  cases e <;> first
    | rfl
    | cases h
def allPlain (es : List Expr) : Bool := es.all notStar
theorem noStars {env : PySem.Env} {pos : Pos} : ∀ {es : List Expr}, allPlain es = true → (backTo pos (starEach es env)).any (·.1) = false
  | [], _ => rfl
  | e :: es, h => by
    unfold allPlain at h
    rw [List.all_cons, Bool.and_eq_true] at h
    rw [starEach_of h.1]
    show (false || (backTo pos (starEach es env)).any (·.1)) = false
    rw [Bool.false_or]
    exact noStars (es := es) h.2

section
variable {X : Cx} {bo : Option Addr} {H0 : Hp} {cs : Cls'} {W : WX}
abbrev gT (g : Env → Bx → R P) : Env → Bx → R Bool := fun e b => (g e b).bind fun d b1 => R.ofO (truD d) b1
/-- what is shown of an expression: e reads as g -/
structure Snd (X : Cx) (bo : Option Addr) (H0 : Hp) (cs : Cls') (W : WX) (ov fr : Bool) (e : Expr) (g : Env → Bx → R P) : Prop where
  r : PE X e (lift bo H0 cs W (lM bo .r) g)
  n : ov = false → PE X e (lift bo H0 cs W (lM bo .n) g)
  f : fr = true → PE X e (lift bo H0 cs W (lF bo) g)
  t : PT X e (liftT bo H0 cs W (gT g))
theorem lift_r_n {g : Env → Bx → R P} : ∀ σ H Q, lift bo H0 cs W (lM bo .r) g σ H Q → lift bo H0 cs W (lM bo .n) g σ H Q := fun σ H Q ⟨e, b, F, p, h⟩ => by
  refine ⟨e, b, F, p, ?_⟩
  cases q : g e b with
  | ok d b1 =>
    rw [q] at h
    exact fun v F' H' x z r => h v F' H' x z (Rp.r x.sub z r)
  | ex c d b1 =>
    rw [q] at h
    exact h
  | no =>
    rw [q] at h
    exact h.elim
theorem lift_n_f {g : Env → Bx → R P} : ∀ σ H Q, lift bo H0 cs W (lM bo .n) g σ H Q → lift bo H0 cs W (lF bo) g σ H Q := fun σ H Q ⟨e, b, F, p, h⟩ => by
  refine ⟨e, b, F, p, ?_⟩
  cases q : g e b with
  | ok d b1 =>
    rw [q] at h
    intro v F' H' x z r
    obtain ⟨F'', x', z', _, r'⟩ := FrR.fz x z (fun _ h => h) r
    exact h v F'' H' x' z' r'
  | ex c d b1 =>
    rw [q] at h
    exact h
  | no =>
    rw [q] at h
    exact h.elim
/-- a test by the value's truth -/
theorem pt_of {e : Expr} {g : Env → Bx → R P} (h : PE X e (lift bo H0 cs W (lM bo .r) g)) (hp : plainT e = true) : PT X e (liftT bo H0 cs W (gT g)) :=
  PT.imp (pt_truth h (isTrue_of_plain hp)) fun σ H Q ⟨e, b, F, p, h⟩ => ⟨e, b, F, p, finT_bind p h fun d b1 v F1 H1 p1 x1 r1 h1 => by
    cases q : truD d with
    | none =>
      rw [q] at h1
      exact h1.elim
    | some t =>
      rw [q] at h1
      exact ⟨t, truV_of p1.sub r1 q, h1 F1 H1 (Ext.refl p1.sub) p1.box⟩⟩
theorem Snd.of_n {ov : Bool} {e : Expr} {g : Env → Bx → R P} (h : PE X e (lift bo H0 cs W (lM bo .n) g)) (hp : plainT e = true) : Snd X bo H0 cs W ov false e g :=
  have r := PE.imp h lift_r_n
  ⟨r, fun _ => h, (fun z => nomatch z), pt_of r hp⟩
theorem Snd.of_f {ov fr : Bool} {e : Expr} {g : Env → Bx → R P} (h : PE X e (lift bo H0 cs W (lF bo) g)) (hp : plainT e = true) : Snd X bo H0 cs W ov fr e g :=
  have n := PE.imp h lift_n_f
  have r := PE.imp n lift_r_n
  ⟨r, fun _ => n, fun _ => h, pt_of r hp⟩

/-! names -/
theorem slot_get {F H : Hp} {σ : L2.St} {e : Env} (p : EnvRep bo H0 F H σ e) {i : Nat} {d : P} (h : getV e i = some d) : ∃ v, σ[i]? = some (some v) ∧ Rp F v d := by
  unfold getV at h
  split at h
  · rename_i d' hd
    cases h
    obtain ⟨v, h1, h2⟩ := p.sl i _ hd
    refine ⟨v, ?_, h2⟩
    cases q : σ[i]? with
    | none =>
      rw [q] at h1
      cases h1
    | some o =>
      rw [q] at h1
      exact congrArg some h1
  · cases h
theorem own_get {F H : Hp} {σ : L2.St} {e : Env} (p : EnvRep bo H0 F H σ e) {i : Nat} {d : P} (h : getO e i = some d) : ∃ a, σ[i]? = some (some (.ref a)) ∧ Ow bo H0 F H a d := by
  unfold getO at h
  split at h
  · rename_i d' hd
    cases h
    obtain ⟨v, h1, h2⟩ := p.sl i _ hd
    refine ⟨v, ?_, h2⟩
    cases q : σ[i]? with
    | none =>
      rw [q] at h1
      cases h1
    | some o =>
      rw [q] at h1
      exact congrArg some h1
  · cases h
theorem snd_var {i : Nat} {x : Str} {pos : Pos} {ov : Bool} (hN : X.N[i]? = some x) (hv : Vis X.env.scope x) (hd : (x == ("__debug__" : Str)) = false) (hcd : (x == ("__classdict__" : Str)) = false) :
    Snd X bo H0 cs W ov false (.Name x pos) fun e b => R.ofO (getV e i) b :=
  Snd.of_n (PE.imp (pe_var hN hv hd hcd) fun σ H Q ⟨e, b, F, p, h⟩ => by
    dsimp only at h
    cases q : getV e i with
    | none =>
      rw [q] at h
      exact h.elim
    | some d =>
      rw [q] at h
      obtain ⟨v, h1, h2⟩ := slot_get p.env q
      exact ⟨v, h1, h v F H (Ext.refl p.sub) p.box h2⟩) rfl
theorem snd_ovar {i : Nat} {x : Str} {pos : Pos} (hN : X.N[i]? = some x) (hv : Vis X.env.scope x) (hd : (x == ("__debug__" : Str)) = false) (hcd : (x == ("__classdict__" : Str)) = false) :
    Snd X bo H0 cs W true false (.Name x pos) fun e b => R.ofO (getO e i) b := by
  have r : PE X (.Name x pos) (lift bo H0 cs W (lM bo .r) fun e b => R.ofO (getO e i) b) := PE.imp (pe_var hN hv hd hcd) fun σ H Q ⟨e, b, F, p, h⟩ => by
    dsimp only at h
    cases q : getO e i with
    | none =>
      rw [q] at h
      exact h.elim
    | some d =>
      rw [q] at h
      obtain ⟨a, h1, h2⟩ := own_get p.env q
      cases d with
      | list ds =>
        obtain ⟨n, _, _, vs, h3, h4⟩ := h2
        exact ⟨.ref a, h1, h _ F H (Ext.refl p.sub) p.box ⟨a, vs, rfl, n, h3, h4⟩⟩
      | _ => exact h2.elim
  exact ⟨r, (fun z => nomatch z), (fun z => nomatch z), pt_of r rfl⟩
/-- a value that does not lean on the heap -/
inductive Flt : V → P → Prop
  | non : Flt .non .none
  | bl (b : Bool) : Flt (.bl b) (.bool b)
  | int (i : Int) : Flt (.int i) (.int i)
  | str (x : Str) : Flt (.str x) (.str x)
theorem Flt.rp {F : Hp} {v : V} {d : P} (h : Flt v d) : Rp F v d := by
  cases h
  · exact .non
  · exact .bl _
  · exact .int _
  · exact .str _
theorem Flt.fr {F H H' : Hp} {v : V} {d : P} (h : Flt v d) : FrR bo H F H' v d := by
  cases h
  · exact Rp.non
  · exact Rp.bl _
  · exact Rp.int _
  · exact Rp.str _
theorem snd_flat {ov fr : Bool} {e : Expr} {v : V} {d : P} (hf : Flt v d) (h : PE X e (tC v)) (hp : plainT e = true) : Snd X bo H0 cs W ov fr e fun _ b => .ok d b :=
  Snd.of_f (PE.imp h fun σ H Q ⟨e, b, F, p, h⟩ => h v F H (Ext.refl p.sub) p.box hf.fr) hp

/-! operators -/
theorem op2 {Rl : Hp → Hp → Hp → V → P → Prop} {f : P → P → Option P} {ga gb : Env → Bx → R P} (hR : ∀ H H1 F' H' v d, Rl H1 F' H' v d → (∀ a, H1 a = none → H a = none) → Rl H F' H' v d) (σ : L2.St) (H : Hp) (Q : VK)
    (h : lift bo H0 cs W Rl (fun e b => (ga e b).bind fun d b1 => (gb e b1).bind fun d' b2 => R.ofO (f d d') b2) σ H Q) : tOp (rD bo Rl f) (lift bo H0 cs W (lM bo .r) ga) (lift bo H0 cs W (lM bo .r) gb) σ H Q := by
  obtain ⟨e, b, F, p, h⟩ := h
  refine ⟨e, b, F, p, fin_bind hR p h fun d b1 v F1 H1 p1 x1 r1 h1 => ⟨e, b1, F1, p1, fin_bind hR p1 h1 fun d' b2 v' F2 H2 p2 x2 r2 h2 => ?_⟩⟩
  cases q : f d d' with
  | none =>
    rw [q] at h2
    exact h2.elim
  | some z =>
    rw [q] at h2
    exact ⟨F2, b2, d, d', z, p2.sub, p2.box, RpR.mono x2 r1, r2, q, fun w F' H' x r => h2 w F' H' x.of_none (x.box p2.box) r⟩
theorem hRMm {m : Mo} : ∀ (H H1 F' H' : Hp) v d, lM bo m H1 F' H' v d → (∀ a, H1 a = none → H a = none) → lM bo m H F' H' v d := fun _ _ _ _ _ _ h _ => h
theorem hRFf : ∀ (H H1 F' H' : Hp) v d, lF bo H1 F' H' v d → (∀ a, H1 a = none → H a = none) → lF bo H F' H' v d := fun H H1 F' H' v d h hn => hRF F' H' v d h hn
theorem snd_bin {ov o1 o2 f1 f2 : Bool} {op : Operator} {f : P → P → Option P} {a b : Expr} {pos : Pos} {ga gb : Env → Bx → R P} (ho : OpR X (binaryOp op) (rD bo (lF bo) f)) (ha : Snd X bo H0 cs W o1 f1 a ga) (hb : Snd X bo H0 cs W o2 f2 b gb) :
    Snd X bo H0 cs W ov true (.BinOp a op b pos) fun e b => (ga e b).bind fun d b1 => (gb e b1).bind fun d' b2 => R.ofO (f d d') b2 :=
  Snd.of_f (PE.imp (pe_op ho ha.r hb.r) (op2 hRFf)) rfl
theorem cmp2 {f : P → P → Option Bool} {ga gb : Env → Bx → R P} (σ : L2.St) (H : Hp) (Q : VK)
    (h : lift bo H0 cs W (lF bo) (fun e b => (ga e b).bind fun d b1 => (gb e b1).bind fun d' b2 => R.ofO ((f d d').map .bool) b2) σ H Q) : tOp (rB bo f) (lift bo H0 cs W (lM bo .r) ga) (lift bo H0 cs W (lM bo .r) gb) σ H Q := by
  obtain ⟨e, b, F, p, h⟩ := h
  refine ⟨e, b, F, p, fin_bind hRFf p h fun d b1 v F1 H1 p1 x1 r1 h1 => ⟨e, b1, F1, p1, fin_bind hRFf p1 h1 fun d' b2 v' F2 H2 p2 x2 r2 h2 => ?_⟩⟩
  cases q : f d d' with
  | none =>
    rw [q] at h2
    exact h2.elim
  | some z =>
    rw [q] at h2
    exact ⟨F2, b2, d, d', z, p2.sub, p2.box, RpR.mono x2 r1, r2, q, h2 _ F2 H2 (Ext.refl p2.sub) p2.box (Flt.bl z).fr⟩
theorem bind_assoc {α β γ : Type} (r : R α) (f : α → Bx → R β) (g : β → Bx → R γ) : (r.bind f).bind g = r.bind fun a b => (f a b).bind g := by
  cases r <;> rfl
theorem cmp2T {f : P → P → Option Bool} {ga gb : Env → Bx → R P} (σ : L2.St) (H : Hp) (Q : Bool → Hp → Prop)
    (h : liftT bo H0 cs W (gT fun e b => (ga e b).bind fun d b1 => (gb e b1).bind fun d' b2 => R.ofO ((f d d').map .bool) b2) σ H Q) : tTest (tOp (rB bo f) (lift bo H0 cs W (lM bo .r) ga) (lift bo H0 cs W (lM bo .r) gb)) σ H Q := by
  obtain ⟨e, b, F, p, h⟩ := h
  dsimp only [gT] at h
  rw [bind_assoc] at h
  refine ⟨e, b, F, p, finT_bind p h fun d b1 v F1 H1 p1 x1 r1 h1 => ⟨e, b1, F1, p1, ?_⟩⟩
  rw [bind_assoc] at h1
  refine finT_bind p1 h1 fun d' b2 v' F2 H2 p2 x2 r2 h2 => ?_
  cases q : f d d' with
  | none =>
    rw [q] at h2
    exact h2.elim
  | some z =>
    rw [q] at h2
    exact ⟨F2, b2, d, d', z, p2.sub, p2.box, RpR.mono x2 r1, r2, q, z, rfl, h2 F2 H2 (Ext.refl p2.sub) p2.box⟩
theorem snd_cmp {ov o1 o2 f1 f2 fr : Bool} {op : CmpOp} {f : P → P → Option Bool} {a b : Expr} {pos : Pos} {ga gb : Env → Bx → R P} (ho : OpR X (compareOp op) (rB bo f)) (ha : Snd X bo H0 cs W o1 f1 a ga) (hb : Snd X bo H0 cs W o2 f2 b gb) (hm : notSet b = true) :
    Snd X bo H0 cs W ov fr (.Compare a [op] [b] pos) fun e b => (ga e b).bind fun d b1 => (gb e b1).bind fun d' b2 => R.ofO ((f d d').map .bool) b2 :=
  have f := PE.imp (pe_cmpR ho ha.r hb.r (notSet_marks hm)) cmp2
  have n := PE.imp f lift_n_f
  ⟨PE.imp n lift_r_n, fun _ => n, fun _ => f, PT.imp (pt_cmpR ho ha.r hb.r (notSet_marks hm)) cmp2T⟩
/-- a op1 b op2 c -/
abbrev gChain (f1 f2 : P → P → Option Bool) (ga gb gc : Env → Bx → R P) : Env → Bx → R P := fun e b => (ga e b).bind fun d b1 => (gb e b1).bind fun d' b2 => match f1 d d' with
    | some true => (gc e b2).bind fun d'' b3 => R.ofO ((f2 d' d'').map .bool) b3
    | some false => .ok (.bool false) b2
    | none => .no
theorem chain2 {f1 f2 : P → P → Option Bool} {ga gb gc : Env → Bx → R P} (σ : L2.St) (H : Hp) (Q : VK) (h : lift bo H0 cs W (lF bo) (gChain f1 f2 ga gb gc) σ H Q) :
    tChain (rB bo f1) (rB bo f2) (lift bo H0 cs W (lM bo .r) ga) (lift bo H0 cs W (lM bo .r) gb) (lift bo H0 cs W (lM bo .r) gc) σ H Q := by
  obtain ⟨e, b, F, p, h⟩ := h
  refine ⟨e, b, F, p, fin_bind hRFf p h fun d b1 v F1 H1 p1 x1 r1 h1 => ⟨e, b1, F1, p1, fin_bind hRFf p1 h1 fun d' b2 v' F2 H2 p2 x2 r2 h2 => ?_⟩⟩
  try dsimp only at h2
  split at h2
  · rename_i q
    refine ⟨F2, b2, d, d', true, p2.sub, p2.box, RpR.mono x2 r1, r2, q, true, rfl, ?_⟩
    rw [if_pos rfl]
    refine ⟨e, b2, F2, p2, fin_bind hRFf p2 h2 fun d'' b3 v'' F3 H3 p3 x3 r3 h3 => ?_⟩
    cases q' : f2 d' d'' with
    | none =>
      rw [q'] at h3
      exact h3.elim
    | some z =>
      rw [q'] at h3
      exact ⟨F3, b3, d', d'', z, p3.sub, p3.box, RpR.mono x3 r2, r3, q', h3 _ F3 H3 (Ext.refl p3.sub) p3.box (Flt.bl z).fr⟩
  · rename_i q
    refine ⟨F2, b2, d, d', false, p2.sub, p2.box, RpR.mono x2 r1, r2, q, false, rfl, ?_⟩
    rw [if_neg (by decide)]
    exact h2 _ F2 H2 (Ext.refl p2.sub) p2.box (Flt.bl false).fr
  · exact h2.elim
theorem chain2T {f1 f2 : P → P → Option Bool} {ga gb gc : Env → Bx → R P} (σ : L2.St) (H : Hp) (Q : Bool → Hp → Prop) (h : liftT bo H0 cs W (gT (gChain f1 f2 ga gb gc)) σ H Q) :
    tTest (tChain (rB bo f1) (rB bo f2) (lift bo H0 cs W (lM bo .r) ga) (lift bo H0 cs W (lM bo .r) gb) (lift bo H0 cs W (lM bo .r) gc)) σ H Q := by
  obtain ⟨e, b, F, p, h⟩ := h
  dsimp only [gT, gChain] at h
  rw [bind_assoc] at h
  refine ⟨e, b, F, p, finT_bind p h fun d b1 v F1 H1 p1 x1 r1 h1 => ⟨e, b1, F1, p1, ?_⟩⟩
  rw [bind_assoc] at h1
  refine finT_bind p1 h1 fun d' b2 v' F2 H2 p2 x2 r2 h2 => ?_
  try dsimp only at h2
  split at h2
  · rename_i q
    refine ⟨F2, b2, d, d', true, p2.sub, p2.box, RpR.mono x2 r1, r2, q, true, rfl, ?_⟩
    rw [if_pos rfl]
    rw [bind_assoc] at h2
    refine ⟨e, b2, F2, p2, finT_bind p2 h2 fun d'' b3 v'' F3 H3 p3 x3 r3 h3 => ?_⟩
    cases q' : f2 d' d'' with
    | none =>
      rw [q'] at h3
      exact h3.elim
    | some z =>
      rw [q'] at h3
      exact ⟨F3, b3, d', d'', z, p3.sub, p3.box, RpR.mono x3 r2, r3, q', z, rfl, h3 F3 H3 (Ext.refl p3.sub) p3.box⟩
  · rename_i q
    refine ⟨F2, b2, d, d', false, p2.sub, p2.box, RpR.mono x2 r1, r2, q, false, rfl, ?_⟩
    rw [if_neg (by decide)]
    exact ⟨false, rfl, h2 F2 H2 (Ext.refl p2.sub) p2.box⟩
  · exact h2.elim
theorem snd_chain {ov o1 o2 o3 f1 f2 f3 fr : Bool} {op op' : CmpOp} {f f' : P → P → Option Bool} {a b c : Expr} {pos : Pos} {ga gb gc : Env → Bx → R P} (ho : OpR X (compareOp op) (rB bo f)) (ho' : OpR X (compareOp op') (rB bo f'))
    (ha : Snd X bo H0 cs W o1 f1 a ga) (hb : Snd X bo H0 cs W o2 f2 b gb) (hc : Snd X bo H0 cs W o3 f3 c gc) (hm : notSet c = true) : Snd X bo H0 cs W ov fr (.Compare a [op, op'] [b, c] pos) (gChain f f' ga gb gc) :=
  have hl : lastMarks [op, op'] [b, c] = false := notSet_marks hm
  have f := PE.imp (pe_chain ho ho' ha.r hb.r hc.r hl) chain2
  have n := PE.imp f lift_n_f
  ⟨PE.imp n lift_r_n, fun _ => n, fun _ => f, PT.imp (pt_chain ho ho' ha.r hb.r hc.r hl) chain2T⟩

/-! a op1 b op2 c op3 d -/
def tChain3 (r r' r'' : R2) (ta tb tc td : TE) : TE := fun σ H Q => ta σ H fun x H1 => tb σ H1 fun y H2 => r x y H2 fun z H3 => ∃ k, z = .bl k ∧
  (if k = true then tc σ H3 fun u H4 => r' y u H4 fun z2 H5 => ∃ k2, z2 = .bl k2 ∧ (if k2 = true then td σ H5 fun w H6 => r'' u w H6 Q else Q (.bl false) H5) else Q (.bl false) H3)
theorem pe_chain3 {op op' op'' : CmpOp} {r r' r'' : R2} {a b c d : Expr} {ta tb tc td : TE} {pos : Pos} (ho : OpR X (compareOp op) r) (ho' : OpR X (compareOp op') r') (ho'' : OpR X (compareOp op'') r'') (ha : PE X a ta) (hb : PE X b tb) (hc : PE X c tc) (hd : PE X d td)
    (hm : lastMarks [op, op', op''] [b, c, d] = false) : PE X (.Compare a [op, op', op''] [b, c, d] pos) (tChain3 r r' r'' ta tb tc td) := by
  refine ⟨fun pins s σ H Q I h => ?_⟩
  refine PyProof.Rows.Compare_chain (thn (ha.run pins s σ H _ I h) fun v s1 ⟨x, H1, I1, r1, q1⟩ => PyProof.Rows.chain_link (thn (hb.run pins s1 σ H1 _ I1 q1) fun u s2 ⟨y, H2, I2, r2, q2⟩ =>
    thn (ho pins s2 σ H2 x y v u _ I2 r1 r2 q2) fun d s3 ⟨z, H3, I3, r3, k, e, q3⟩ => ?_)) hm
  subst e
  cases r3
  refine wpAny_truthy_bool ?_
  cases k with
  | false => exact PyProof.Rows.ite_ff ⟨.bl false, H3, I3, rfl, q3⟩
  | true =>
    refine PyProof.Rows.ite_tt (PyProof.Rows.chain_link (thn (hc.run pins s3 σ H3 _ I3 q3) fun w' s4 ⟨z', H4, I4, r4, q4⟩ => thn (ho' pins s4 σ H4 y z' u w' _ I4 r2 r4 q4) fun d s5 ⟨z5, H5, I5, r5, k5, e5, q5⟩ => ?_))
    subst e5
    cases r5
    refine wpAny_truthy_bool ?_
    cases k5 with
    | false => exact PyProof.Rows.ite_ff ⟨.bl false, H5, I5, rfl, q5⟩
    | true => exact PyProof.Rows.ite_tt (PyProof.Rows.chain_last (thn (hd.run pins s5 σ H5 _ I5 q5) fun w6 s6 ⟨z6, H6, I6, r6, q6⟩ => ho'' pins s6 σ H6 z' z6 w' w6 Q I6 r4 r6 q6))
theorem pt_chain3 {op op' op'' : CmpOp} {r r' r'' : R2} {a b c d : Expr} {ta tb tc td : TE} {pos : Pos} (ho : OpR X (compareOp op) r) (ho' : OpR X (compareOp op') r') (ho'' : OpR X (compareOp op'') r'') (ha : PE X a ta) (hb : PE X b tb) (hc : PE X c tc) (hd : PE X d td)
    (hm : lastMarks [op, op', op''] [b, c, d] = false) : PT X (.Compare a [op, op', op''] [b, c, d] pos) (tTest (tChain3 r r' r'' ta tb tc td)) := by
  refine ⟨fun pins s σ H Q I h => ?_⟩
  refine PyProof.Rows.isTrue_chain (thn (ha.run pins s σ H _ I h) fun v s1 ⟨x, H1, I1, r1, q1⟩ => PyProof.Rows.test_link (thn (hb.run pins s1 σ H1 _ I1 q1) fun u s2 ⟨y, H2, I2, r2, q2⟩ =>
    thn (ho pins s2 σ H2 x y v u _ I2 r1 r2 q2) fun d s3 ⟨z, H3, I3, r3, k, e, q3⟩ => ?_)) hm
  subst e
  cases r3
  refine wpAny_truthy_bool ?_
  cases k with
  | false =>
    obtain ⟨k', e', q'⟩ := q3
    cases e'
    exact PyProof.Rows.ite_ff ⟨H3, I3, q'⟩
  | true =>
    refine PyProof.Rows.ite_tt (PyProof.Rows.test_link (thn (hc.run pins s3 σ H3 _ I3 q3) fun w' s4 ⟨z', H4, I4, r4, q4⟩ => thn (ho' pins s4 σ H4 y z' u w' _ I4 r2 r4 q4) fun d s5 ⟨z5, H5, I5, r5, k5, e5, q5⟩ => ?_))
    subst e5
    cases r5
    refine wpAny_truthy_bool ?_
    cases k5 with
    | false =>
      obtain ⟨k', e', q'⟩ := q5
      cases e'
      exact PyProof.Rows.ite_ff ⟨H5, I5, q'⟩
    | true =>
      refine PyProof.Rows.ite_tt (PyProof.Rows.test_last (thn (hd.run pins s5 σ H5 _ I5 q5) fun w6 s6 ⟨z6, H6, I6, r6, q6⟩ => thn (ho'' pins s6 σ H6 z' z6 w' w6 _ I6 r4 r6 q6) fun d' s7 ⟨z2, H7, I7, r7, k2, e2, q7⟩ => ?_))
      subst e2
      cases r7
      exact wpAny_truthy_bool ⟨H7, I7, q7⟩
abbrev gChain3 (f1 f2 f3 : P → P → Option Bool) (ga gb gc gd : Env → Bx → R P) : Env → Bx → R P := fun e b => (ga e b).bind fun d b1 => (gb e b1).bind fun d' b2 => match f1 d d' with
    | some true => (gc e b2).bind fun d'' b3 => match f2 d' d'' with
      | some true => (gd e b3).bind fun d3 b4 => R.ofO ((f3 d'' d3).map .bool) b4
      | some false => .ok (.bool false) b3
      | none => .no
    | some false => .ok (.bool false) b2
    | none => .no
theorem chain3_2 {f1 f2 f3 : P → P → Option Bool} {ga gb gc gd : Env → Bx → R P} (σ : L2.St) (H : Hp) (Q : VK) (h : lift bo H0 cs W (lF bo) (gChain3 f1 f2 f3 ga gb gc gd) σ H Q) :
    tChain3 (rB bo f1) (rB bo f2) (rB bo f3) (lift bo H0 cs W (lM bo .r) ga) (lift bo H0 cs W (lM bo .r) gb) (lift bo H0 cs W (lM bo .r) gc) (lift bo H0 cs W (lM bo .r) gd) σ H Q := by
  obtain ⟨e, b, F, p, h⟩ := h
  refine ⟨e, b, F, p, fin_bind hRFf p h fun d b1 v F1 H1 p1 x1 r1 h1 => ⟨e, b1, F1, p1, fin_bind hRFf p1 h1 fun d' b2 v' F2 H2 p2 x2 r2 h2 => ?_⟩⟩
  try dsimp only at h2
  split at h2
  · rename_i q
    refine ⟨F2, b2, d, d', true, p2.sub, p2.box, RpR.mono x2 r1, r2, q, true, rfl, ?_⟩
    rw [if_pos rfl]
    refine ⟨e, b2, F2, p2, fin_bind hRFf p2 h2 fun d'' b3 v'' F3 H3 p3 x3 r3 h3 => ?_⟩
    try dsimp only at h3
    split at h3
    · rename_i q3
      refine ⟨F3, b3, d', d'', true, p3.sub, p3.box, RpR.mono x3 r2, r3, q3, true, rfl, ?_⟩
      rw [if_pos rfl]
      refine ⟨e, b3, F3, p3, fin_bind hRFf p3 h3 fun d3 b4 v3 F4 H4 p4 x4 r4 h4 => ?_⟩
      cases q' : f3 d'' d3 with
      | none =>
        rw [q'] at h4
        exact h4.elim
      | some z =>
        rw [q'] at h4
        exact ⟨F4, b4, d'', d3, z, p4.sub, p4.box, RpR.mono x4 r3, r4, q', h4 _ F4 H4 (Ext.refl p4.sub) p4.box (Flt.bl z).fr⟩
    · rename_i q3
      refine ⟨F3, b3, d', d'', false, p3.sub, p3.box, RpR.mono x3 r2, r3, q3, false, rfl, ?_⟩
      rw [if_neg (by decide)]
      exact h3 _ F3 H3 (Ext.refl p3.sub) p3.box (Flt.bl false).fr
    · exact h3.elim
  · rename_i q
    refine ⟨F2, b2, d, d', false, p2.sub, p2.box, RpR.mono x2 r1, r2, q, false, rfl, ?_⟩
    rw [if_neg (by decide)]
    exact h2 _ F2 H2 (Ext.refl p2.sub) p2.box (Flt.bl false).fr
  · exact h2.elim
theorem chain3_T {f1 f2 f3 : P → P → Option Bool} {ga gb gc gd : Env → Bx → R P} (σ : L2.St) (H : Hp) (Q : Bool → Hp → Prop) (h : liftT bo H0 cs W (gT (gChain3 f1 f2 f3 ga gb gc gd)) σ H Q) :
    tTest (tChain3 (rB bo f1) (rB bo f2) (rB bo f3) (lift bo H0 cs W (lM bo .r) ga) (lift bo H0 cs W (lM bo .r) gb) (lift bo H0 cs W (lM bo .r) gc) (lift bo H0 cs W (lM bo .r) gd)) σ H Q := by
  obtain ⟨e, b, F, p, h⟩ := h
  dsimp only [gT, gChain3] at h
  rw [bind_assoc] at h
  refine ⟨e, b, F, p, finT_bind p h fun d b1 v F1 H1 p1 x1 r1 h1 => ⟨e, b1, F1, p1, ?_⟩⟩
  rw [bind_assoc] at h1
  refine finT_bind p1 h1 fun d' b2 v' F2 H2 p2 x2 r2 h2 => ?_
  try dsimp only at h2
  split at h2
  · rename_i q
    refine ⟨F2, b2, d, d', true, p2.sub, p2.box, RpR.mono x2 r1, r2, q, true, rfl, ?_⟩
    rw [if_pos rfl]
    rw [bind_assoc] at h2
    refine ⟨e, b2, F2, p2, finT_bind p2 h2 fun d'' b3 v'' F3 H3 p3 x3 r3 h3 => ?_⟩
    try dsimp only at h3
    split at h3
    · rename_i q3
      refine ⟨F3, b3, d', d'', true, p3.sub, p3.box, RpR.mono x3 r2, r3, q3, true, rfl, ?_⟩
      rw [if_pos rfl]
      rw [bind_assoc] at h3
      refine ⟨e, b3, F3, p3, finT_bind p3 h3 fun d3 b4 v3 F4 H4 p4 x4 r4 h4 => ?_⟩
      cases q' : f3 d'' d3 with
      | none =>
        rw [q'] at h4
        exact h4.elim
      | some z =>
        rw [q'] at h4
        exact ⟨F4, b4, d'', d3, z, p4.sub, p4.box, RpR.mono x4 r3, r4, q', z, rfl, h4 F4 H4 (Ext.refl p4.sub) p4.box⟩
    · rename_i q3
      refine ⟨F3, b3, d', d'', false, p3.sub, p3.box, RpR.mono x3 r2, r3, q3, false, rfl, ?_⟩
      rw [if_neg (by decide)]
      exact ⟨false, rfl, h3 F3 H3 (Ext.refl p3.sub) p3.box⟩
    · exact h3.elim
  · rename_i q
    refine ⟨F2, b2, d, d', false, p2.sub, p2.box, RpR.mono x2 r1, r2, q, false, rfl, ?_⟩
    rw [if_neg (by decide)]
    exact ⟨false, rfl, h2 F2 H2 (Ext.refl p2.sub) p2.box⟩
  · exact h2.elim
theorem snd_chain3 {ov o1 o2 o3 o4 f1 f2 f3 f4 fr : Bool} {op op' op'' : CmpOp} {f f' f'' : P → P → Option Bool} {a b c d : Expr} {pos : Pos} {ga gb gc gd : Env → Bx → R P} (ho : OpR X (compareOp op) (rB bo f)) (ho' : OpR X (compareOp op') (rB bo f')) (ho'' : OpR X (compareOp op'') (rB bo f''))
    (ha : Snd X bo H0 cs W o1 f1 a ga) (hb : Snd X bo H0 cs W o2 f2 b gb) (hc : Snd X bo H0 cs W o3 f3 c gc) (hd : Snd X bo H0 cs W o4 f4 d gd) (hm : notSet d = true) : Snd X bo H0 cs W ov fr (.Compare a [op, op', op''] [b, c, d] pos) (gChain3 f f' f'' ga gb gc gd) :=
  have hl : lastMarks [op, op', op''] [b, c, d] = false := notSet_marks hm
  have f := PE.imp (pe_chain3 ho ho' ho'' ha.r hb.r hc.r hd.r hl) chain3_2
  have n := PE.imp f lift_n_f
  ⟨PE.imp n lift_r_n, fun _ => n, fun _ => f, PT.imp (pt_chain3 ho ho' ho'' ha.r hb.r hc.r hd.r hl) chain3_T⟩

/-! not, and, or, if .. else -/
theorem snd_neg {ov o1 f1 fr : Bool} {a : Expr} {pos : Pos} {ga : Env → Bx → R P} (ha : Snd X bo H0 cs W o1 f1 a ga) : Snd X bo H0 cs W ov fr (.UnaryOp .USub a pos) fun e b => (ga e b).bind fun d b1 => match d with
    | .int i => .ok (.int (-i)) b1
    | _ => .no :=
  Snd.of_f (PE.imp (pe_un un_neg ha.r) fun σ H Q ⟨e, b, F, p, h⟩ => ⟨e, b, F, p, fin_bind hRFf p h fun d b1 v F1 H1 p1 x1 r1 h1 => by
    try dsimp only at h1
    split at h1
    · rename_i i
      exact ⟨i, RpR.int (bo := bo) (H := H1) r1, h1 _ F1 H1 (Ext.refl p1.sub) p1.box (Flt.int _).fr⟩
    · exact h1.elim⟩) rfl
theorem snd_not {ov o1 f1 fr : Bool} {a : Expr} {pos : Pos} {ga : Env → Bx → R P} (ha : Snd X bo H0 cs W o1 f1 a ga) : Snd X bo H0 cs W ov fr (.UnaryOp .Not a pos) fun e b => (ga e b).bind fun d b1 => R.ofO ((truD d).map fun t => .bool (!t)) b1 :=
  have f : PE X (.UnaryOp .Not a pos) (lift bo H0 cs W (lF bo) fun e b => (ga e b).bind fun d b1 => R.ofO ((truD d).map fun t => .bool (!t)) b1) := PE.imp (pe_notT ha.r) fun σ H Q ⟨e, b, F, p, h⟩ => ⟨e, b, F, p, fin_bind hRFf p h fun d b1 v F1 H1 p1 x1 r1 h1 => by
    cases q : truD d with
    | none =>
      rw [q] at h1
      exact h1.elim
    | some t =>
      rw [q] at h1
      exact ⟨t, truV_of p1.sub r1 q, h1 _ F1 H1 (Ext.refl p1.sub) p1.box (Flt.bl _).fr⟩⟩
  have n := PE.imp f lift_n_f
  ⟨PE.imp n lift_r_n, fun _ => n, fun _ => f, PT.imp (pt_not ha.t) fun σ H Q ⟨e, b, F, p, h⟩ => ⟨e, b, F, p, by
    dsimp only [gT] at h ⊢
    rw [bind_assoc] at h
    cases q : ga e b with
    | ok d b1 =>
      rw [q] at h
      show finT bo cs W σ F H (R.ofO (truD d) b1) _
      have h : finT bo cs W σ F H ((R.ofO ((truD d).map fun t => PyData.bool (!t)) b1).bind fun d b1 => R.ofO (truD d) b1) Q := h
      cases q' : truD d with
      | none =>
        rw [q'] at h
        exact h.elim
      | some t =>
        rw [q'] at h
        exact h
    | ex c d b1 =>
      rw [q] at h
      exact h
    | no =>
      rw [q] at h
      exact h.elim⟩⟩
abbrev gAnd (ga gb : Env → Bx → R P) : Env → Bx → R P := fun e b => (ga e b).bind fun d b1 => match truD d with
    | some true => gb e b1
    | some false => .ok d b1
    | none => .no
abbrev gOr (ga gb : Env → Bx → R P) : Env → Bx → R P := fun e b => (ga e b).bind fun d b1 => match truD d with
    | some false => gb e b1
    | some true => .ok d b1
    | none => .no
/-- what is shown of values and tests under one BoolOp -/
structure SndB (X : Cx) (bo : Option Addr) (H0 : Hp) (cs : Cls') (W : WX) (op : BoolOp) (es : List Expr) (pos : Pos) (g : Env → Bx → R P) : Prop where
  n : PE X (.BoolOp op es pos) (lift bo H0 cs W (lM bo .n) g)
  t : PW X (.BoolOp op es pos) (liftT bo H0 cs W (gT g))
theorem SndB.snd {ov : Bool} {op : BoolOp} {es : List Expr} {pos : Pos} {g : Env → Bx → R P} (h : SndB X bo H0 cs W op es pos g) : Snd X bo H0 cs W ov false (.BoolOp op es pos) g :=
  ⟨PE.imp h.n lift_r_n, fun _ => h.n, (fun z => nomatch z), h.t.pt⟩
theorem sndB_and1 {f1 : Bool} {a : Expr} {pos : Pos} {ga : Env → Bx → R P} (ha : Snd X bo H0 cs W false f1 a ga) : SndB X bo H0 cs W .And [a] pos ga := ⟨pe_one (ha.n rfl), pw_and1 ha.t⟩
theorem sndB_or1 {f1 : Bool} {a : Expr} {pos : Pos} {ga : Env → Bx → R P} (ha : Snd X bo H0 cs W false f1 a ga) : SndB X bo H0 cs W .Or [a] pos ga := ⟨pe_one (ha.n rfl), pw_or1 ha.t⟩
theorem sndB_and {f1 : Bool} {a b : Expr} {rest : List Expr} {pos : Pos} {ga gb : Env → Bx → R P} (ha : Snd X bo H0 cs W false f1 a ga) (hb : SndB X bo H0 cs W .And (b :: rest) pos gb) : SndB X bo H0 cs W .And (a :: b :: rest) pos (gAnd ga gb) := by
  refine ⟨PE.imp (pe_andT (ha.n rfl) hb.n) fun σ H Q ⟨e, b, F, p, h⟩ => ⟨e, b, F, p, fin_bind hRMm p h fun d b1 v F1 H1 p1 x1 r1 h1 => ?_⟩, PW.imp (pw_and ha.t hb.t) fun σ H Q ⟨e, b, F, p, h⟩ => ⟨e, b, F, p, ?_⟩⟩
  · try dsimp only at h1
    split at h1
    · rename_i q
      refine ⟨true, truV_of p1.sub (Rp.r p1.sub p1.box r1) q, ?_⟩
      rw [if_pos rfl]
      exact ⟨e, b1, F1, p1, h1⟩
    · rename_i q
      refine ⟨false, truV_of p1.sub (Rp.r p1.sub p1.box r1) q, ?_⟩
      rw [if_neg (by decide)]
      exact h1 _ F1 H1 (Ext.refl p1.sub) p1.box r1
    · exact h1.elim
  · dsimp only [gT, gAnd] at h ⊢
    rw [bind_assoc] at h
    cases q : ga e b with
    | ok d b1 =>
      rw [q] at h
      simp only [R.bind] at h ⊢
      cases q' : truD d with
      | none =>
        rw [q'] at h
        exact h.elim
      | some t =>
        rw [q'] at h
        cases t with
        | true =>
          show ∀ F' H', Ext bo F H F' H' → BoxRep bo F' H' b1 → _
          intro F' H' x z
          rw [if_pos rfl]
          exact ⟨e, b1, F', p.step x z, finT_step x h⟩
        | false =>
          show ∀ F' H', Ext bo F H F' H' → BoxRep bo F' H' b1 → _
          intro F' H' x z
          rw [if_neg (by decide)]
          simp only [q', R.ofO] at h
          exact h F' H' x z
    | ex c d b1 =>
      rw [q] at h
      exact h
    | no =>
      rw [q] at h
      exact h.elim
theorem sndB_or {f1 : Bool} {a b : Expr} {rest : List Expr} {pos : Pos} {ga gb : Env → Bx → R P} (ha : Snd X bo H0 cs W false f1 a ga) (hb : SndB X bo H0 cs W .Or (b :: rest) pos gb) : SndB X bo H0 cs W .Or (a :: b :: rest) pos (gOr ga gb) := by
  refine ⟨PE.imp (pe_orT (ha.n rfl) hb.n) fun σ H Q ⟨e, b, F, p, h⟩ => ⟨e, b, F, p, fin_bind hRMm p h fun d b1 v F1 H1 p1 x1 r1 h1 => ?_⟩, PW.imp (pw_or ha.t hb.t) fun σ H Q ⟨e, b, F, p, h⟩ => ⟨e, b, F, p, ?_⟩⟩
  · try dsimp only at h1
    split at h1
    · rename_i q
      refine ⟨false, truV_of p1.sub (Rp.r p1.sub p1.box r1) q, ?_⟩
      rw [if_neg (by decide)]
      exact ⟨e, b1, F1, p1, h1⟩
    · rename_i q
      refine ⟨true, truV_of p1.sub (Rp.r p1.sub p1.box r1) q, ?_⟩
      rw [if_pos rfl]
      exact h1 _ F1 H1 (Ext.refl p1.sub) p1.box r1
    · exact h1.elim
  · dsimp only [gT, gOr] at h ⊢
    rw [bind_assoc] at h
    cases q : ga e b with
    | ok d b1 =>
      rw [q] at h
      simp only [R.bind] at h ⊢
      cases q' : truD d with
      | none =>
        rw [q'] at h
        exact h.elim
      | some t =>
        rw [q'] at h
        cases t with
        | false =>
          show ∀ F' H', Ext bo F H F' H' → BoxRep bo F' H' b1 → _
          intro F' H' x z
          rw [if_neg (by decide)]
          exact ⟨e, b1, F', p.step x z, finT_step x h⟩
        | true =>
          show ∀ F' H', Ext bo F H F' H' → BoxRep bo F' H' b1 → _
          intro F' H' x z
          rw [if_pos rfl]
          simp only [q', R.ofO] at h
          exact h F' H' x z
    | ex c d b1 =>
      rw [q] at h
      exact h
    | no =>
      rw [q] at h
      exact h.elim
theorem pt_ifExp {c a b : Expr} {pos : Pos} {tc ta tb : TT} (hc : PT X c tc) (ha : PT X a ta) (hb : PT X b tb) : PT X (.IfExp c a b pos) (fun σ H Q => tc σ H fun t H1 => if t = true then ta σ H1 Q else tb σ H1 Q) := by
  refine ⟨fun pins s σ H Q I h => ?_⟩
  refine PyProof.Rows.isTrue_IfExp (thn (hc.run pins s σ H _ I h) fun d s1 ⟨H1, I1, q1⟩ => ?_)
  cases d with
  | true => exact ha.run pins s1 σ H1 Q I1 q1
  | false => exact hb.run pins s1 σ H1 Q I1 q1
abbrev gIte (gc ga gb : Env → Bx → R P) : Env → Bx → R P := fun e b => (gc e b).bind fun d b1 => match truD d with
    | some true => ga e b1
    | some false => gb e b1
    | none => .no
theorem ite_step {gc : Env → Bx → R P} {e : Env} {b : Bx} {F H : Hp} {σ : L2.St} {k : Bool → Bx → R P} {Rl : Hp → Hp → Hp → V → P → Prop} {Q : VK} {Q1 : Bool → Hp → Prop} (hR : ∀ H H1 F' H' v d, Rl H1 F' H' v d → (∀ a, H1 a = none → H a = none) → Rl H F' H' v d) (p : Pre bo H0 σ H e b F)
    (h : fin bo cs W Rl σ F H ((gc e b).bind fun d b1 => match truD d with | some t => k t b1 | none => .no) Q) (hk : ∀ t b1 F1 H1, Pre bo H0 σ H1 e b1 F1 → fin bo cs W Rl σ F1 H1 (k t b1) Q → Q1 t H1) : finT bo cs W σ F H (gT gc e b) Q1 := by
  dsimp only [gT]
  cases q : gc e b with
  | ok d b1 =>
    rw [q] at h
    simp only [R.bind] at h ⊢
    cases q' : truD d with
    | none =>
      rw [q'] at h
      exact h.elim
    | some t =>
      rw [q'] at h
      intro F1 H1 x z
      exact hk t b1 F1 H1 (p.step x z) (fin_step (fun F' H' v d => hR H H1 F' H' v d) z x h)
  | ex c d b1 =>
    rw [q] at h
    exact h
  | no =>
    rw [q] at h
    exact h.elim
theorem gIte_eq {gc ga gb : Env → Bx → R P} {e : Env} {b : Bx} : gIte gc ga gb e b = (gc e b).bind fun d b1 => match truD d with | some t => (fun (t : Bool) b1 => if t = true then ga e b1 else gb e b1) t b1 | none => .no := by
  dsimp only [gIte]
  congr 1
  funext d b1
  cases truD d with
  | none => rfl
  | some t => cases t <;> rfl
theorem ite_fin {gc ga gb : Env → Bx → R P} {Rl : Hp → Hp → Hp → V → P → Prop} (hR : ∀ H H1 F' H' v d, Rl H1 F' H' v d → (∀ a, H1 a = none → H a = none) → Rl H F' H' v d) (σ : L2.St) (H : Hp) (Q : VK) (h : lift bo H0 cs W Rl (gIte gc ga gb) σ H Q) :
    tIf (liftT bo H0 cs W (gT gc)) (lift bo H0 cs W Rl ga) (lift bo H0 cs W Rl gb) σ H Q := by
  obtain ⟨e, b, F, p, h⟩ := h
  rw [gIte_eq] at h
  refine ⟨e, b, F, p, ite_step hR p h fun t b1 F1 H1 p1 h1 => ?_⟩
  cases t with
  | true =>
    rw [if_pos rfl]
    exact ⟨e, b1, F1, p1, h1⟩
  | false =>
    rw [if_neg (by decide)]
    exact ⟨e, b1, F1, p1, h1⟩
theorem snd_ite {ov o1 f1 f2 f3 : Bool} {c a b : Expr} {pos : Pos} {gc ga gb : Env → Bx → R P} (hc : Snd X bo H0 cs W o1 f1 c gc) (ha : Snd X bo H0 cs W false f2 a ga) (hb : Snd X bo H0 cs W false f3 b gb) :
    Snd X bo H0 cs W ov (f2 && f3) (.IfExp c a b pos) (gIte gc ga gb) := by
  have n := PE.imp (pe_ifExp (pos := pos) hc.t (ha.n rfl) (hb.n rfl)) (ite_fin hRMm)
  refine ⟨PE.imp n lift_r_n, fun _ => n, fun z => ?_, PT.imp (pt_ifExp hc.t ha.t hb.t) fun σ H Q ⟨e, b, F, p, h⟩ => ?_⟩
  · rw [Bool.and_eq_true] at z
    exact PE.imp (pe_ifExp (pos := pos) hc.t (ha.f z.1) (hb.f z.2)) (ite_fin hRFf)
  · refine ⟨e, b, F, p, ?_⟩
    dsimp only [gT, gIte] at h ⊢
    rw [bind_assoc] at h
    cases q : gc e b with
    | ok d b1 =>
      rw [q] at h
      simp only [R.bind] at h ⊢
      cases q' : truD d with
      | none =>
        rw [q'] at h
        exact h.elim
      | some t =>
        rw [q'] at h
        intro F' H' x z
        cases t with
        | true =>
          rw [if_pos rfl]
          exact ⟨e, b1, F', p.step x z, finT_step x h⟩
        | false =>
          rw [if_neg (by decide)]
          exact ⟨e, b1, F', p.step x z, finT_step x h⟩
    | ex c d b1 =>
      rw [q] at h
      exact h
    | no =>
      rw [q] at h
      exact h.elim
end
end Dv
/-! text D4 -/
set_option Elab.async false
set_option linter.all false
set_option maxRecDepth 100000
set_option maxHeartbeats 4000000
namespace Dv
open PySem PySem.Spec L2
section
variable {X : Cx} {bo : Option Addr} {H0 : Hp} {cs : Cls'} {W : WX}

/-! ### argument lists, displays -/
theorem Snd.m {ov fr : Bool} {e : Expr} {g : Env → Bx → R P} (h : Snd X bo H0 cs W ov fr e g) (m : Mo) (hm : m = .n → ov = false) : PE X e (lift bo H0 cs W (lM bo m) g) := by
  cases m with
  | n => exact h.n (hm rfl)
  | r => exact h.r
theorem spa_nil {m : Mo} : PA X [] (liftA bo H0 cs W m fun _ b => .ok (.list []) b) := PA.imp pa_nil fun σ H Q ⟨e, b, F, p, h⟩ => h [] F H (Ext.refl p.sub) p.box .nil
theorem spa_cons {m : Mo} {ov fr : Bool} {e : Expr} {es : List Expr} {ga gs : Env → Bx → R P} (ha : Snd X bo H0 cs W ov fr e ga) (hm : m = .n → ov = false) (hs : PA X es (liftA bo H0 cs W m gs)) (hst : notStar e = true) :
    PA X (e :: es) (liftA bo H0 cs W m fun e b => (ga e b).bind fun d b1 => (gs e b1).bind fun ds b2 => .ok (.list (d :: argsOf ds)) b2) :=
  PA.imp (pa_cons (ha.m m hm) hs (starEach_of hst)) fun σ H Q ⟨e, b, F, p, h⟩ => ⟨e, b, F, p, finA_bind p h fun d b1 v F1 H1 p1 x1 r1 h1 => ⟨e, b1, F1, p1, finA_bindA p1 h1 fun ds b2 vs F2 H2 p2 x2 r2 h2 =>
    h2 (v :: vs) F2 H2 (Ext.refl p2.sub) p2.box (.cons (RpM.mono x2 r1) r2)⟩⟩
theorem spa_star {ov fr : Bool} {e : Expr} {es : List Expr} {p : Pos} {ga gs : Env → Bx → R P} (ha : Snd X bo H0 cs W ov fr e ga) (hs : PA X es (liftA bo H0 cs W .n gs)) :
    PA X (.Starred e p :: es) (liftA bo H0 cs W .n fun e b => (ga e b).bind fun d b1 => match d with
      | .list ys => (gs e b1).bind fun ds b2 => .ok (.list (ys ++ argsOf ds)) b2
      | .tuple ys => (gs e b1).bind fun ds b2 => .ok (.list (ys ++ argsOf ds)) b2
      | _ => .no) :=
  PA.imp (StX.pa_star ha.r hs (by rfl)) fun σ H Q ⟨e, b, F, p, h⟩ => ⟨e, b, F, p, finA_bind p h fun d b1 v F1 H1 p1 x1 r1 h1 => by
    cases d with
    | list ys =>
      obtain ⟨a, ws, rfl, n, ha, ra⟩ := r1
      exact ⟨a, ws, rfl, .inr (SqL.of ha), e, b1, F1, p1, finA_bindA p1 h1 fun ds b2 vs F2 H2 p2 x2 r2 h2 =>
        h2 (ws ++ vs) F2 H2 (Ext.refl p2.sub) p2.box (((ra.mono x2.sf).append (Paired.rpA r2)).paired)⟩
    | tuple ys =>
      obtain ⟨a, ws, rfl, ha, ra⟩ := RpR.tup (bo := bo) (H := H1) r1
      exact ⟨a, ws, rfl, .inl (SqT.of (p1.sub _ _ ha)), e, b1, F1, p1, finA_bindA p1 h1 fun ds b2 vs F2 H2 p2 x2 r2 h2 =>
        h2 (ws ++ vs) F2 H2 (Ext.refl p2.sub) p2.box (((ra.mono x2.sf).append (Paired.rpA r2)).paired)⟩
    | _ => exact h1.elim⟩
theorem snd_tup {ov fr : Bool} {es : List Expr} {k : Nat} {pos : Pos} {gs : Env → Bx → R P} (hs : PA X es (liftA bo H0 cs W .n gs)) :
    Snd X bo H0 cs W ov fr (.Tuple es k pos) fun e b => (gs e b).bind fun ds b1 => if (argsOf ds).length ≤ line then .ok (.tuple (argsOf ds)) b1 else .no :=
  Snd.of_f (PE.imp (pe_tup hs) fun σ H Q ⟨e, b, F, p, h⟩ => ⟨e, b, F, p, fin_bindA hRFf p h fun ds b1 vs F1 H1 p1 x1 r1 h1 => by
    split at h1
    · rename_i hl
      have r := Paired.rpA r1
      refine ⟨by rw [r.length, ← line_eq]; exact hl, fun q hq => ?_⟩
      obtain ⟨F', m1, m2⟩ := made_tup p1.sub hq r
      exact h1 _ _ _ m1.of_none (m1.box p1.box) m2
    · exact h1.elim⟩) rfl
theorem snd_lst {ov fr : Bool} {es : List Expr} {pos : Pos} {gs : Env → Bx → R P} (hs : PA X es (liftA bo H0 cs W .n gs)) :
    Snd X bo H0 cs W ov fr (.List es pos) fun e b => (gs e b).bind fun ds b1 => if (argsOf ds).length ≤ line then .ok (.list (argsOf ds)) b1 else .no :=
  Snd.of_f (PE.imp (pe_lst hs) fun σ H Q ⟨e, b, F, p, h⟩ => ⟨e, b, F, p, fin_bindA hRFf p h fun ds b1 vs F1 H1 p1 x1 r1 h1 => by
    split at h1
    · rename_i hl
      have r := Paired.rpA r1
      refine ⟨by rw [r.length, ← line_eq]; exact hl, fun q hq => ?_⟩
      obtain ⟨m1, m2⟩ := made_lst p1.sub p1.box hq r
      exact h1 _ _ _ m1.of_none (m1.box p1.box) m2
    · exact h1.elim⟩) rfl

/-! ### items, slices -/
def notSlice : Expr → Bool
  | .Slice _ _ _ _ => false
  | _ => true
theorem plainIx_of {e : Expr} (h : notSlice e = true) : PlainIx e := fun o i => by
  cases e <;> first
    | rfl
    | cases h
theorem snd_idx {ov o1 o2 f1 f2 : Bool} {a i : Expr} {pos : Pos} {ga gb : Env → Bx → R P} (ha : Snd X bo H0 cs W o1 f1 a ga) (hb : Snd X bo H0 cs W o2 f2 i gb) (hs : notSlice i = true) :
    Snd X bo H0 cs W ov false (.Subscript a i pos) fun e b => (ga e b).bind fun d b1 => (gb e b1).bind fun d' b2 => R.ofO (idxD d d') b2 :=
  Snd.of_n (PE.imp (pe_ix ix_D ha.r hb.r (plainIx_of hs)) (op2 hRMm)) rfl
/-- a slice's part -/
def liftO (bo : Option Addr) (H0 : Hp) (cs : Cls') (W : WX) (ie : IE) (g : Env → Bx → R P) : TO := fun σ H Q => ∃ e b F, Pre bo H0 σ H e b F ∧ match g e b with
  | .ok d b' => ∀ o F' H', Ext bo F H F' H' → BoxRep bo F' H' b' → (∀ o', partE ie d = some o' → o = o') → partE ie d ≠ none → Q o H'
  | .ex c d b' => ∀ dd F' H', Ext bo F H F' H' → BoxRep bo F' H' b' → ExcRep cs F' H' dd c d → W (.ref (cs.ad c)) dd σ H'
  | .no => False
theorem spo_none : PO X none (fun σ H Q => Q none H) := po_none
theorem snd_slc {ov o1 f1 : Bool} {a : Expr} {lo hi : Option Expr} {l h : IE} {pos p2 : Pos} {ga gl gh : Env → Bx → R P} (ha : Snd X bo H0 cs W o1 f1 a ga)
    (hl : (lo = none ∧ l = .nil ∧ gl = fun _ b => .ok (.list []) b) ∨ ∃ le, lo = some le ∧ (∃ o2 f2, Snd X bo H0 cs W o2 f2 le gl) ∧ l ≠ .nil)
    (hh : (hi = none ∧ h = .nil ∧ gh = fun _ b => .ok (.list []) b) ∨ ∃ le, hi = some le ∧ (∃ o2 f2, Snd X bo H0 cs W o2 f2 le gh) ∧ h ≠ .nil) :
    Snd X bo H0 cs W ov true (.Subscript a (.Slice lo hi none p2) pos) fun e b => (ga e b).bind fun d b1 => (gl e b1).bind fun l' b2 => match partE l l' with
      | none => .no
      | some l'' => (gh e b2).bind fun h' b3 => match partE h h' with
        | none => .no
        | some h'' => R.ofO (slcD d l'' h'') b3 := by
  have part : ∀ {le : Expr} {ie : IE} {g : Env → Bx → R P}, ie ≠ .nil → (∃ o2 f2, Snd X bo H0 cs W o2 f2 le g) → PO X (some le) (tPart (lift bo H0 cs W (lM bo .r) g)) := fun _ ⟨_, _, h⟩ => po_some h.r
  -- the end: what the cut itself asks
  have last : ∀ {σ : L2.St} {e : Env} {b3 : Bx} {F3 H3 : Hp} {Q : VK} {d : P} {x : V} {ol oh : Option Int}, Pre bo H0 σ H3 e b3 F3 → RpR bo F3 H3 x d → fin bo cs W (lF bo) σ F3 H3 (R.ofO (slcD d ol oh) b3) Q → rSlD bo x ol oh H3 Q := fun {σ e b3 F3 H3 Q d x ol oh} p3 r h3 => by
    unfold slcD at h3
    split at h3
    · exact ⟨F3, b3, _, _, p3.sub, p3.box, r, rfl, fun w F' H' x r => h3 w F' H' x.of_none (x.box p3.box) r⟩
    · exact ⟨F3, b3, _, _, p3.sub, p3.box, r, rfl, fun w F' H' x r => h3 w F' H' x.of_none (x.box p3.box) r⟩
    · exact h3.elim
  have pint : ∀ {ie : IE} {d : P} {o : Option Int}, ie ≠ .nil → partE ie d = some o → ∃ i, d = .int i ∧ o = some i := fun {ie d o} hn he => by
    cases d with
    | int i =>
      cases ie <;> first
        | exact absurd rfl hn
        | exact ⟨i, rfl, (Option.some.inj he).symm⟩
    | _ =>
      cases ie <;> first
        | exact absurd rfl hn
        | cases he
  have nxt : ∀ {σ : L2.St} {e : Env} {b2 : Bx} {F2 H2 : Hp} {Q : VK} {d : P} {x : V} {ol : Option Int} {hi : Option Expr} {ie : IE} {g : Env → Bx → R P}, ie ≠ .nil → Pre bo H0 σ H2 e b2 F2 → RpR bo F2 H2 x d →
      fin bo cs W (lF bo) σ F2 H2 ((g e b2).bind fun h' b3 => match partE ie h' with | none => .no | some h'' => R.ofO (slcD d ol h'') b3) Q → tPart (lift bo H0 cs W (lM bo .r) g) σ H2 fun u H3 => rSlD bo x ol u H3 Q := fun {σ e b2 F2 H2 Q d x ol hi ie g} nh p2 r h2 =>
    ⟨e, b2, F2, p2, fin_bind hRFf p2 h2 fun d3 b3 v3 F3 H3 p3 x3 r3 h3 => by
      split at h3
      · exact h3.elim
      · rename_i h'' e2
        obtain ⟨j, rfl, rfl⟩ := pint nh e2
        exact ⟨j, RpR.int (bo := bo) (H := H3) r3, last p3 (RpR.mono x3 r) h3⟩⟩
  rcases hl with ⟨rfl, rfl, rfl⟩ | ⟨le, rfl, sl, nl⟩
  · rcases hh with ⟨rfl, rfl, rfl⟩ | ⟨he, rfl, sh, nh⟩
    · exact Snd.of_f (PE.imp (pe_slice (sl_D (bo := bo)) ha.r po_none po_none) fun σ H Q ⟨e, b, F, p, h⟩ => ⟨e, b, F, p, fin_bind hRFf p h fun d b1 v F1 H1 p1 x1 r1 h1 => last p1 r1 h1⟩) rfl
    · exact Snd.of_f (PE.imp (pe_slice (sl_D (bo := bo)) ha.r po_none (part nh sh)) fun σ H Q ⟨e, b, F, p, h⟩ => ⟨e, b, F, p, fin_bind hRFf p h fun d b1 v F1 H1 p1 x1 r1 h1 => nxt (hi := none) nh p1 r1 h1⟩) rfl
  · rcases hh with ⟨rfl, rfl, rfl⟩ | ⟨he, rfl, sh, nh⟩
    · exact Snd.of_f (PE.imp (pe_slice (sl_D (bo := bo)) ha.r (part nl sl) po_none) fun σ H Q ⟨e, b, F, p, h⟩ => ⟨e, b, F, p, fin_bind hRFf p h fun d b1 v F1 H1 p1 x1 r1 h1 => ⟨e, b1, F1, p1, fin_bind hRFf p1 h1 fun d2 b2 v2 F2 H2 p2 x2 r2 h2 => by
        split at h2
        · exact h2.elim
        · rename_i l'' e1
          obtain ⟨i, rfl, rfl⟩ := pint nl e1
          exact ⟨i, RpR.int (bo := bo) (H := H2) r2, last p2 (RpR.mono x2 r1) h2⟩⟩⟩) rfl
    · exact Snd.of_f (PE.imp (pe_slice (sl_D (bo := bo)) ha.r (part nl sl) (part nh sh)) fun σ H Q ⟨e, b, F, p, h⟩ => ⟨e, b, F, p, fin_bind hRFf p h fun d b1 v F1 H1 p1 x1 r1 h1 => ⟨e, b1, F1, p1, fin_bind hRFf p1 h1 fun d2 b2 v2 F2 H2 p2 x2 r2 h2 => by
        split at h2
        · exact h2.elim
        · rename_i l'' e1
          obtain ⟨i, rfl, rfl⟩ := pint nl e1
          exact ⟨i, RpR.int (bo := bo) (H := H2) r2, nxt (hi := none) nh p2 (RpR.mono x2 r1) h2⟩⟩⟩) rfl
end
end Dv
/-! text D5 -/
set_option Elab.async false
set_option linter.all false
set_option maxRecDepth 100000
set_option maxHeartbeats 4000000
namespace Dv
open PySem PySem.Spec L2

/-! ### stores into slots -/
section
variable {bo : Option Addr} {H0 : Hp} {F H : Hp} {σ : L2.St} {e : Env}
theorem getD_set {α : Type} {l : List (Option α)} {i j : Nat} {x : Option α} : ((l.set i x)[j]?.getD none) = if i = j ∧ j < l.length then x else l[j]?.getD none := by
  by_cases h : i = j
  · subst h
    by_cases hl : i < l.length
    · rw [List.getElem?_set_self hl, if_pos ⟨rfl, hl⟩]
      rfl
    · rw [if_neg (fun z => hl z.2), List.getElem?_eq_none (by rw [List.length_set]; omega), List.getElem?_eq_none (by omega)]
  · rw [List.getElem?_set_ne h, if_neg (fun z => h z.1)]
theorem EnvRep.set_v (p : EnvRep bo H0 F H σ e) {i : Nat} {v : V} {d : P} (r : Rp F v d) : EnvRep bo H0 F H (σ.set i (some v)) (e.set i (.v d)) := by
  have hk : ∀ (j : Nat) (s : Sl), (e.set i (.v d))[j]? = some s → (i = j ∧ s = .v d) ∨ (i ≠ j ∧ e[j]? = some s) := fun j s h => by
    by_cases hij : i = j
    · subst hij
      by_cases hl : i < e.length
      · rw [List.getElem?_set_self hl] at h
        exact .inl ⟨rfl, (Option.some.inj h).symm⟩
      · rw [List.getElem?_eq_none (by rw [List.length_set]; omega)] at h
        cases h
    · rw [List.getElem?_set_ne hij] at h
      exact .inr ⟨hij, h⟩
  refine ⟨by rw [List.length_set, List.length_set]; exact p.len, fun j s h => ?_, fun j k a dj dk hjk h1 h2 h3 => ?_⟩
  · have hl : j < σ.length := by
      have := (List.getElem?_eq_some_iff.mp h).1
      rw [List.length_set, p.len] at this
      exact this
    rw [getD_set]
    rcases hk j s h with ⟨rfl, rfl⟩ | ⟨hij, h⟩
    · rw [if_pos ⟨rfl, hl⟩]
      exact ⟨v, rfl, r⟩
    · rw [if_neg (fun z => hij z.1)]
      exact p.sl j s h
  · rcases hk j _ h1 with ⟨_, q⟩ | ⟨hij, h1⟩
    · cases q
    · rcases hk k _ h2 with ⟨_, q⟩ | ⟨hik, h2⟩
      · cases q
      · rw [List.getElem?_set_ne hij] at h3
        rw [List.getElem?_set_ne hik]
        exact p.ap j k a dj dk hjk h1 h2 h3
theorem EnvRep.set_no (p : EnvRep bo H0 F H σ e) {i : Nat} {x : Option V} : EnvRep bo H0 F H (σ.set i x) (e.set i .no) := by
  have hk : ∀ (j : Nat) (s : Sl), (e.set i .no)[j]? = some s → (i = j ∧ s = .no) ∨ (i ≠ j ∧ e[j]? = some s) := fun j s h => by
    by_cases hij : i = j
    · subst hij
      by_cases hl : i < e.length
      · rw [List.getElem?_set_self hl] at h
        exact .inl ⟨rfl, (Option.some.inj h).symm⟩
      · rw [List.getElem?_eq_none (by rw [List.length_set]; omega)] at h
        cases h
    · rw [List.getElem?_set_ne hij] at h
      exact .inr ⟨hij, h⟩
  refine ⟨by rw [List.length_set, List.length_set]; exact p.len, fun j s h => ?_, fun j k a dj dk hjk h1 h2 h3 => ?_⟩
  · rcases hk j s h with ⟨rfl, rfl⟩ | ⟨hij, h⟩
    · trivial
    · rw [getD_set, if_neg (fun z => hij z.1)]
      exact p.sl j s h
  · rcases hk j _ h1 with ⟨_, q⟩ | ⟨hij, h1⟩
    · cases q
    · rcases hk k _ h2 with ⟨_, q⟩ | ⟨hik, h2⟩
      · cases q
      · rw [List.getElem?_set_ne hij] at h3
        rw [List.getElem?_set_ne hik]
        exact p.ap j k a dj dk hjk h1 h2 h3
theorem EnvRep.wiped (p : EnvRep bo H0 F H σ e) : ∀ vs : List Nat, EnvRep bo H0 F H (L2.wipe σ vs) (wipe e vs)
  | [] => p
  | v :: vs => by
    show EnvRep bo H0 F H ((L2.wipe σ vs).set v none) ((wipe e vs).set v .no)
    exact (EnvRep.wiped p vs).set_no
theorem wipe_at0 {vs : List Nat} (h : 0 ∉ vs) : (L2.wipe σ vs)[0]? = σ[0]? := L2.wipe_out h
theorem Pre.wiped {b : Bx} (p : Pre bo H0 σ H e b F) {vs : List Nat} (h0 : bo ≠ none → 0 ∉ vs) : Pre bo H0 (L2.wipe σ vs) H (wipe e vs) b F :=
  ⟨p.sub, p.env.wiped vs, p.box, fun β hb => by rw [wipe_at0 (h0 (by rw [hb]; exact (fun z => nomatch z)))]; exact p.bs β hb, p.al⟩
theorem Pre.set_v {b : Bx} (p : Pre bo H0 σ H e b F) {i : Nat} {v : V} {d : P} (r : Rp F v d) (h0 : bo ≠ none → i ≠ 0) : Pre bo H0 (σ.set i (some v)) H (e.set i (.v d)) b F :=
  ⟨p.sub, p.env.set_v r, p.box, fun β hb => by rw [List.getElem?_set_ne (h0 (by rw [hb]; exact (fun z => nomatch z)))]; exact p.bs β hb, p.al⟩
end

/-! ### targets -/
def tgIx : Tg → List Nat
  | .nm i => [i]
  | .tp t => tgIx t
  | .nil => []
  | .cons a b => tgIx a ++ tgIx b
section
variable {X : Cx} {bo : Option Addr} {H0 : Hp}
def liftG (bo : Option Addr) (H0 : Hp) (tg : Tg) : TG := fun v σ H Q => ∃ e b F d e', Pre bo H0 σ H e b F ∧ Rp F v d ∧ asgn tg d e = some e' ∧
  ∀ σ', Pre bo H0 σ' H e' b F → σ'.length = σ.length → (∀ i, i ∉ tgIx tg → σ'[i]? = σ[i]?) → Q σ' H
def liftGs (bo : Option Addr) (H0 : Hp) (tg : Tg) : TGs := fun vs σ H Q => ∃ e b F ds e', Pre bo H0 σ H e b F ∧ RpA F vs ds ∧ asgn tg (.list ds) e = some e' ∧
  ∀ σ', Pre bo H0 σ' H e' b F → σ'.length = σ.length → (∀ i, i ∉ tgIx tg → σ'[i]? = σ[i]?) → Q σ' H
theorem PG.imp {tg : Expr} {t u : TG} (h : PG X tg t) (i : ∀ v σ H Q, u v σ H Q → t v σ H Q) : PG X tg u := ⟨fun pins s σ H v w Q I r q => h.run pins s σ H v w Q I r (i v σ H Q q)⟩
theorem PGs.imp {ts : List Expr} {t u : TGs} (h : PGs X ts t) (i : ∀ v σ H Q, u v σ H Q → t v σ H Q) : PGs X ts u := ⟨fun pins s σ H v w Q I r q => h.run pins s σ H v w Q I r (i v σ H Q q)⟩
theorem spg_name {i : Nat} {x : Str} {pos : Pos} (hN : X.N.Nodup) (hi : X.N[i]? = some x) (hx : Loc X.env.scope x) (hf : X.fn x = true ∨ X.env.scope.names.lookup x = some .local) (h0 : bo ≠ none → i ≠ 0) : PG X (.Name x pos) (liftG bo H0 (.nm i)) :=
  PG.imp (pg_name hN hi hx hf) fun v σ H Q ⟨e, b, F, d, e', p, r, he, k⟩ => by
    have he : some (e.set i (.v d)) = some e' := he
    cases he
    exact k _ (p.set_v r h0) (List.length_set ..) fun j hj => List.getElem?_set_ne (fun z => hj (by rw [z]; exact List.mem_singleton.mpr rfl))
theorem spgs_nil : PGs X [] (liftGs bo H0 .nil) := PGs.imp pgs_nil fun vs σ H Q ⟨e, b, F, ds, e', p, r, he, k⟩ => by
  cases ds with
  | nil =>
    cases r
    cases he
    exact ⟨rfl, k σ p rfl fun _ _ => rfl⟩
  | cons d ds => cases he
theorem assignEach_of {e : Expr} {es : List Expr} {env : PySem.Env} (h : notStar e = true) : assignEach (e :: es) env = (false, assign e env) :: assignEach es env := by
  cases e <;> first
    | rfl
    | cases h
theorem spgs_cons {t : Expr} {ts : List Expr} {a b : Tg} (h1 : PG X t (liftG bo H0 a)) (h2 : PGs X ts (liftGs bo H0 b)) (hs : notStar t = true) : PGs X (t :: ts) (liftGs bo H0 (.cons a b)) :=
  PGs.imp (pgs_cons h1 h2 (by rw [assignEach_of hs] <;> rfl)) fun vs σ H Q ⟨e, bx, F, ds, e', p, r, he, k⟩ => by
    cases r with
    | nil => cases he
    | cons r1 r2 =>
      rename_i v vs d ds _
      have he : (match asgn a d e with | some e1 => asgn b (.list ds) e1 | none => none) = some e' := he
      split at he
      · rename_i e1 h1
        refine ⟨v, vs, rfl, e, bx, F, d, e1, p, r1, h1, fun σ1 p1 l1 u1 => ⟨e1, bx, F, ds, e', p1, r2, he, fun σ2 p2 l2 u2 => k σ2 p2 (l2.trans l1) fun i hi => ?_⟩⟩
        have hi : i ∉ tgIx a ++ tgIx b := hi
        rw [List.mem_append, not_or] at hi
        rw [u2 i hi.2, u1 i hi.1]
      · cases he
theorem each_len {env : PySem.Env} : ∀ {es : List Expr}, allPlain es = true → (assignEach es env).length = es.length ∧ (assignEach es env).findIdx? (·.1) = none
  | [], _ => ⟨rfl, rfl⟩
  | e :: es, h => by
    unfold allPlain at h
    rw [List.all_cons, Bool.and_eq_true] at h
    obtain ⟨h1, h2⟩ := each_len (env := env) (es := es) h.2
    rw [assignEach_of h.1]
    refine ⟨by rw [List.length_cons, List.length_cons, h1], ?_⟩
    rw [List.findIdx?_cons]
    simp [h2]
theorem spg_tup {es : List Expr} {k : Nat} {pos : Pos} {t : Tg} (hc : X.calm = true) (h : PGs X es (liftGs bo H0 t)) (hl : ∀ ds e e', asgn t (.list ds) e = some e' → ds.length = es.length) (hp : allPlain es = true) : PG X (.Tuple es k pos) (liftG bo H0 (.tp t)) := by
  obtain ⟨h1, h2⟩ := each_len (env := X.env) hp
  refine ⟨fun pins s σ H v u Q I r ⟨e, b, F, d, e', p, rd, he, kk⟩ => ?_⟩
  cases rd with
  | tup ha ra =>
    rename_i a vs ds _
    have he : asgn t (.list ds) e = some e' := he
    exact (pg_tup hc h h1 h2).run pins s σ H _ u Q I r ⟨a, vs, rfl, SqT.of (p.sub _ _ ha), by rw [ra.length]; exact hl _ _ _ he, e, b, F, ds, e', p, ra, he, kk⟩
  | lst ha ra =>
    rename_i a vs ds _
    have he : asgn t (.list ds) e = some e' := he
    exact (pg_lst hc h h1 h2).run pins s σ H _ u Q I r ⟨a, vs, rfl, SqL.of (p.sub _ _ ha), by rw [ra.length]; exact hl _ _ _ he, e, b, F, ds, e', p, ra, he, kk⟩
  | non => cases he
  | bl b => cases he
  | int i => cases he
  | str x => cases he
end

/-! ### what is walked -/
/-- J yields the data ds, from F, H on -/
def WalkW (J : It) (bo : Option Addr) (F H : Hp) (ds : List P) : Prop := ∀ (i : Nat) F1 H1, Ext bo F H F1 H1 → (∀ d, ds[i]? = some d → J.go i H1 ∧ ∀ x H2, J.yld i H1 x H2 → ∃ F2, Ext none F1 H1 F2 H2 ∧ Rp F2 x d) ∧ (i = ds.length → J.stop i H1)
def WalkS (J : It) (F : Hp) (ds : List P) : Prop := ∀ (i : Nat) F1 H1, Same F F1 → Same F1 H1 → (∀ d, ds[i]? = some d → J.go i H1 ∧ ∀ x H2, J.yld i H1 x H2 → ∃ F2, Ext none F1 H1 F2 H2 ∧ Rp F2 x d) ∧ (i = ds.length → J.stop i H1)
theorem WalkS.w {J : It} {bo : Option Addr} {F H : Hp} {ds : List P} (h : WalkS J F ds) : WalkW J bo F H ds := fun i F1 H1 x => h i F1 H1 x.sf x.sub
section
variable {X : Cx} {bo : Option Addr} {H0 : Hp} {cs : Cls'} {W : WX}
def liftI (bo : Option Addr) (H0 : Hp) (cs : Cls') (W : WX) (st : Bool) (g : Env → Bx → R P) : TI := fun σ H Rr => ∃ e b F, Pre bo H0 σ H e b F ∧ match g e b with
  | .ok d b' => match itemsD d with
    | some xs => ∀ J F' H', Ext bo F H F' H' → BoxRep bo F' H' b' → (st = true → WalkS J F' xs) → WalkW J bo F' H' xs → Rr J H'
    | none => False
  | .ex c d b' => ∀ dd F' H', Ext bo F H F' H' → BoxRep bo F' H' b' → ExcRep cs F' H' dd c d → W (.ref (cs.ad c)) dd σ H'
  | .no => False
theorem PI.imp {tg e : Expr} {t u : TI} (h : PI X tg e t) (i : ∀ σ H R, u σ H R → t σ H R) : PI X tg e u := ⟨fun pins s σ H R I q => h.run pins s σ H R I (i σ H R q)⟩
theorem atLen {ds : List P} {vs : List V} {F : Hp} {i : Nat} (r : RpA F vs ds) (h : i = ds.length) : vs.length ≤ i := by
  rw [h, r.length]
  exact Nat.le_refl _
/-- a list, a tuple, a text, walked -/
theorem spi_val {tg e : Expr} {g : Env → Bx → R P} {st ov fr : Bool} (h : Snd X bo H0 cs W ov fr e g) (hst : st = true → ov = false) : PI X tg e (liftI bo H0 cs W st g) := by
  refine ⟨fun pins s σ H Rr I ⟨en, b, F, p, hq⟩ => ?_⟩
  cases q : g en b with
  | no =>
    rw [q] at hq
    exact hq.elim
  | ex c d b' =>
    rw [q] at hq
    -- an error ahead of the walk
    exact (pi_list (tg := tg) h.r).run pins s σ H Rr I ⟨en, b, F, p, by rw [q]; exact hq⟩
  | ok d b' =>
    rw [q] at hq
    cases d with
    | list ds =>
      cases st with
      | true =>
        refine (pi_list (tg := tg) (h.n (hst rfl))).run pins s σ H Rr I ⟨en, b, F, p, ?_⟩
        rw [q]
        intro v F1 H1 x z r
        cases (show Rp F1 v (.list ds) from r) with
        | lst ha ra =>
          rename_i a vs
          have wk : WalkS (Itl X.K a) F1 ds := fun i F2 H2 s1 s2 => ⟨fun d hd => by
            obtain ⟨v, h1, h2⟩ := ra.get hd
            refine ⟨⟨vs, v, SqL.of (s2 _ _ (s1 _ _ ha)), h1⟩, fun y H3 hy => ?_⟩
            obtain ⟨rfl, hy⟩ := hy
            have e1 := hy vs (SqL.of (s2 _ _ (s1 _ _ ha)))
            rw [h1] at e1
            cases e1
            exact ⟨F2, Ext.refl s2, h2.mono s1⟩, fun hi => ⟨vs, SqL.of (s2 _ _ (s1 _ _ ha)), atLen ra hi⟩⟩
          exact ⟨a, rfl, ⟨vs, SqL.of (x.sub _ _ ha)⟩, hq _ F1 H1 x z (fun _ => wk) wk.w⟩
      | false =>
        refine (pi_list (tg := tg) h.r).run pins s σ H Rr I ⟨en, b, F, p, ?_⟩
        rw [q]
        intro v F1 H1 x z r
        obtain ⟨a, vs, rfl, n, ha, ra⟩ := r
        have wk : WalkW (Itl X.K a) bo F1 H1 ds := fun i F2 H2 x2 => ⟨fun d hd => by
          obtain ⟨v, h1, h2⟩ := ra.get hd
          refine ⟨⟨vs, v, SqL.of (x2.keep _ _ n ha), h1⟩, fun y H3 hy => ?_⟩
          obtain ⟨rfl, hy⟩ := hy
          have e1 := hy vs (SqL.of (x2.keep _ _ n ha))
          rw [h1] at e1
          cases e1
          exact ⟨F2, Ext.refl x2.sub, h2.mono x2.sf⟩, fun hi => ⟨vs, SqL.of (x2.keep _ _ n ha), atLen ra hi⟩⟩
        exact ⟨a, rfl, ⟨vs, SqL.of ha⟩, hq _ F1 H1 x z (fun z => nomatch z) wk⟩
    | tuple ds =>
      refine (pi_tup (tg := tg) h.r).run pins s σ H Rr I ⟨en, b, F, p, ?_⟩
      rw [q]
      intro v F1 H1 x z r
      obtain ⟨a, vs, rfl, ha, ra⟩ := RpR.tup (bo := bo) (H := H1) r
      have wk : WalkS (Itt X.K a) F1 ds := fun i F2 H2 s1 s2 => ⟨fun d hd => by
        obtain ⟨v, h1, h2⟩ := ra.get hd
        refine ⟨⟨vs, v, SqT.of (s2 _ _ (s1 _ _ ha)), h1⟩, fun y H3 hy => ?_⟩
        obtain ⟨rfl, hy⟩ := hy
        have e1 := hy vs (SqT.of (s2 _ _ (s1 _ _ ha)))
        rw [h1] at e1
        cases e1
        exact ⟨F2, Ext.refl s2, h2.mono s1⟩, fun hi => ⟨vs, SqT.of (s2 _ _ (s1 _ _ ha)), atLen ra hi⟩⟩
      exact ⟨a, rfl, ⟨vs, SqT.of (x.sub _ _ ha)⟩, hq _ F1 H1 x z (fun _ => wk) wk.w⟩
    | str t =>
      refine (pi_str (tg := tg) h.r).run pins s σ H Rr I ⟨en, b, F, p, ?_⟩
      rw [q]
      intro v F1 H1 x z r
      have wk : WalkS (Its t) F1 (signs t) := fun i F2 H2 s1 s2 => ⟨fun d hd => by
        unfold signs at hd
        rw [List.getElem?_map] at hd
        cases e1 : t.cps.toList[i]? with
        | none =>
          rw [e1] at hd
          cases hd
        | some c =>
          rw [e1] at hd
          cases hd
          have e2 : t.cps[i]? = some c := by rw [← Array.getElem?_toList]; exact e1
          refine ⟨(Array.getElem?_eq_some_iff.mp e2).1, fun y H3 hy => ?_⟩
          obtain ⟨rfl, c', e3, rfl⟩ := hy
          rw [e2] at e3
          cases e3
          exact ⟨F2, Ext.refl s2, .str _⟩, fun hi => by
        show t.cps.size ≤ i
        rw [hi]
        unfold signs
        rw [List.length_map, Array.length_toList]
        exact Nat.le_refl _⟩
      exact ⟨t, RpR.str (bo := bo) (H := H1) r, hq _ F1 H1 x z (fun _ => wk) wk.w⟩
    | none => exact hq.elim
    | bool _ => exact hq.elim
    | int _ => exact hq.elim
    | dict _ => exact hq.elim
end
end Dv
/-! text D6 -/
set_option Elab.async false
set_option linter.all false
set_option maxRecDepth 100000
set_option maxHeartbeats 4000000
namespace Dv
open PySem PySem.Spec L2

/-! ### a list comprehension -/
def rem (H : Hp) (D : Addr) : Hp := fun a => if a = D then none else H a
theorem rem_same {H : Hp} {D : Addr} : rem H D D = none := if_pos rfl
theorem rem_ne {H : Hp} {D a : Addr} (h : a ≠ D) : rem H D a = H a := if_neg h
theorem upd_rem {H : Hp} {D : Addr} {o : HO} (h : H D = some o) : upd (rem H D) D o = H := by
  funext a
  by_cases e : a = D
  · rw [e, upd_same, h]
  · rw [upd_ne e, rem_ne e]
theorem rem_upd {H : Hp} {D : Addr} {o : HO} (h : H D = none) : rem (upd H D o) D = H := by
  funext a
  by_cases e : a = D
  · rw [e, rem_same, h]
  · rw [rem_ne e, upd_ne e]
section
variable {bo : Option Addr} {F H F' H' : Hp} {D : Addr}
/-- the cell D taken out on both sides -/
theorem Ext.rem (x : Ext bo F H F' H') (hF : F' D = none) : Ext bo F (rem H D) F' (Dv.rem H' D) := by
  refine ⟨x.sf, fun a o h => ?_, fun a o n h => ?_, fun a o h1 h2 => ?_⟩
  · have e : a ≠ D := fun e => by
      rw [e, hF] at h
      cases h
    rw [rem_ne e]
    exact x.sub _ _ h
  · have e : a ≠ D := fun e => by
      rw [e, rem_same] at h
      cases h
    rw [rem_ne e] at h ⊢
    exact x.keep _ _ n h
  · have e : a ≠ D := fun e => by
      rw [e, hF] at h2
      cases h2
    rw [rem_ne e]
    exact x.new _ _ h1 h2
theorem wipe_get {σ : L2.St} {i : Nat} : ∀ {vs : List Nat}, (L2.wipe σ vs)[i]? = if i ∈ vs ∧ i < σ.length then some none else σ[i]?
  | [] => by rw [if_neg (fun z => by cases z.1)]; rfl
  | v :: vs => by
    show ((L2.wipe σ vs).set v none)[i]? = _
    by_cases e : v = i
    · subst e
      by_cases hl : v < σ.length
      · rw [List.getElem?_set_self (by rw [wipe_length]; exact hl), if_pos ⟨List.mem_cons_self, hl⟩]
      · rw [if_neg (fun z => hl z.2), List.getElem?_eq_none (by rw [List.length_set, wipe_length]; omega), List.getElem?_eq_none (by omega)]
    · rw [List.getElem?_set_ne e, wipe_get (vs := vs)]
      by_cases h : i ∈ vs ∧ i < σ.length
      · rw [if_pos h, if_pos ⟨List.mem_cons_of_mem _ h.1, h.2⟩]
      · rw [if_neg h, if_neg (fun z => h ⟨by
          rcases List.mem_cons.mp z.1 with q | q
          · exact absurd q.symm e
          · exact q, z.2⟩)]
theorem wipe_eq {σ σ' : L2.St} {vs : List Nat} (hl : σ'.length = σ.length) (h : ∀ i, i ∉ vs → σ'[i]? = σ[i]?) : L2.wipe σ' vs = L2.wipe σ vs := by
  apply List.ext_getElem?
  intro i
  rw [wipe_get, wipe_get, hl]
  by_cases q : i ∈ vs
  · by_cases z : i < σ.length
    · rw [if_pos ⟨q, z⟩, if_pos ⟨q, z⟩]
    · rw [if_neg (fun w => z w.2), if_neg (fun w => z w.2), List.getElem?_eq_none (by omega), List.getElem?_eq_none (by omega)]
  · rw [if_neg (fun w => q w.1), if_neg (fun w => q w.1), h i q]
end
section
variable {X : Cx} {bo : Option Addr} {H0 : Hp} {cs : Cls'} {W : WX}
abbrev W0 : WX := fun _ _ _ _ => False
/-- one turn -/
abbrev lcT (own : List Nat) (tg : Tg) (gifs gelt : Env → Bx → R P) (e : Env) : P → Bx → R (List P) := fun x b => R.noex (match asgn tg x (wipe e own) with
  | none => .no
  | some e' => (gifs e' b).bind fun t b2 => match truD t with
    | some true => (gelt e' b2).bind fun y b3 => .ok [y] b3
    | some false => .ok [] b2
    | none => .no)
abbrev gLc (own : List Nat) (tg : Tg) (git gifs gelt : Env → Bx → R P) : Env → Bx → R P := fun e b => (git e b).bind fun d b1 => match itemsD d with
  | none => .no
  | some xs => if xs.length ≤ line then (lcL (lcT own tg gifs gelt e) xs b1).bind fun ys b2 => .ok (.list ys) b2 else .no
theorem lc_imp {vs : List Nat} {tgD : Tg} {git gifs gelt : Env → Bx → R P} (h0 : bo ≠ none → 0 ∉ vs) (hix : ∀ i, i ∈ tgIx tgD → i ∈ vs) (σ : L2.St) (H : Hp) (Q : VK) (h : lift bo H0 cs W (lF bo) (gLc vs tgD git gifs gelt) σ H Q) :
    tLc (liftI bo H0 cs W false git) (liftG bo H0 tgD) (liftT bo H0 cs W0 (gT gifs)) (lift bo H0 cs W0 (lM bo .n) gelt) vs σ H Q := by
  obtain ⟨e, b, F, p, h⟩ := h
  refine ⟨e, b, F, p, ?_⟩
  dsimp only [gLc] at h
  cases q : git e b with
  | no =>
    rw [q] at h
    exact h
  | ex c d b1 =>
    rw [q] at h
    exact h
  | ok d b1 =>
    rw [q] at h
    have h : fin bo cs W (lF bo) σ F H (match itemsD d with
      | none => .no
      | some xs => if xs.length ≤ line then (lcL (lcT vs tgD gifs gelt e) xs b1).bind fun ys b2 => .ok (.list ys) b2 else .no) Q := h
    dsimp only
    cases qi : itemsD d with
    | none =>
      rw [qi] at h
      exact h
    | some xs =>
      rw [qi] at h
      dsimp only at h ⊢
      split at h
      · rename_i hxl
        intro J F1 H1 x z _ wk D hD
        have p1 : Pre bo H0 σ H1 e b1 F1 := p.step x z
        have h1 := fin_step (Rl := lF bo) (fun F' H' v d => hRFf H H1 F' H' v d) z x h
        have nD : some D ≠ bo := fun w => by
          have := (z D w.symm).2
          rw [hD] at this
          cases this
        have FD : F1 D = none := p1.sub.free hD
        refine ⟨fun i m Hh => ∃ (b : Bx) (F Hd : Hp) (acc : List V) (ad : List P), i ≤ xs.length ∧ m = xs.length - i ∧ Hh = upd Hd D (.lst acc) ∧ Hd D = none ∧ Pre bo H0 (L2.wipe σ vs) Hd (wipe e vs) b F ∧ Ext bo F1 H1 F Hd ∧ RpA F acc ad ∧ ad.length ≤ i ∧
          fin bo cs W (lF bo) σ F1 H1 ((lcL (lcT vs tgD gifs gelt e) (xs.drop i) b).bind fun ys b2 => .ok (.list (ad ++ ys)) b2) Q, ⟨xs.length, b1, F1, H1, [], [], Nat.zero_le _, rfl, rfl, hD, p1.wiped h0, Ext.refl p1.sub, .nil, Nat.le_refl _, ?_⟩, ?_⟩
        · rw [List.drop_zero]
          exact h1
        · rintro i m Hh ⟨b2, F2, Hd, acc, ad, hi, rfl, rfl, hDn, p2, x2, ra, hal, h2⟩
          have FD2 : F2 D = none := p2.sub.free hDn
          obtain ⟨m1, m2⟩ := made_lst (ds := ad) p2.sub p2.box hDn ra
          have p2' : Pre bo H0 (L2.wipe σ vs) (upd Hd D (.lst acc)) (wipe e vs) b2 F2 := p2.step m1.of_none (m1.box p2.box)
          have x2' : Ext bo F1 H1 F2 (upd Hd D (.lst acc)) := x2.trans m1.of_none (m1.box p2.box)
          by_cases hlt : i < xs.length
          · obtain ⟨d0, hd0⟩ : ∃ d0, xs[i]? = some d0 := ⟨xs[i], List.getElem?_eq_getElem hlt⟩
            have hdrop : xs.drop i = d0 :: xs.drop (i + 1) := by
              rw [List.drop_eq_getElem_cons hlt]
              rw [List.getElem?_eq_getElem hlt] at hd0
              rw [Option.some.inj hd0]
            rw [hdrop] at h2
            obtain ⟨go, yl⟩ := (wk i F2 _ x2').1 d0 hd0
            refine .inr ⟨go, fun H' => ∃ (b : Bx) (F Hd : Hp) (acc : List V) (ad : List P), i + 1 ≤ xs.length ∧ xs.length - (i + 1) = xs.length - (i + 1) ∧ H' = upd Hd D (.lst acc) ∧ Hd D = none ∧ Pre bo H0 (L2.wipe σ vs) Hd (wipe e vs) b F ∧ Ext bo F1 H1 F Hd ∧ RpA F acc ad ∧ ad.length ≤ i + 1 ∧
              fin bo cs W (lF bo) σ F1 H1 ((lcL (lcT vs tgD gifs gelt e) (xs.drop (i + 1)) b).bind fun ys b2 => .ok (.list (ad ++ ys)) b2) Q, fun H' nx => ⟨xs.length - (i + 1), by omega, nx⟩, fun y H3 hy => ?_⟩
            obtain ⟨F3, x3, r3⟩ := yl y H3 hy
            have z3 : BoxRep bo F3 H3 b2 := x3.box p2'.box
            have p3 := p2'.step x3.of_none z3
            have h2 : fin bo cs W (lF bo) σ F1 H1 (((lcT vs tgD gifs gelt e d0 b2).bind fun ys b1 => (lcL (lcT vs tgD gifs gelt e) (xs.drop (i + 1)) b1).bind fun zs b2 => .ok (ys ++ zs) b2).bind fun ys b2 => .ok (.list (ad ++ ys)) b2) Q := h2
            -- behind a turn
            have back : ∀ {b5 : Bx} {F5 H5 : Hp} {ws : List V} {ys : List P}, lcT vs tgD gifs gelt e d0 b2 = .ok ys b5 → Ext bo F3 H3 F5 H5 → BoxRep bo F5 H5 b5 → RpA F5 ws ys → ys.length ≤ 1 → H5 D = some (.lst acc) ∧
                ∃ (b : Bx) (F Hd : Hp) (acc' : List V) (ad' : List P), i + 1 ≤ xs.length ∧ xs.length - (i + 1) = xs.length - (i + 1) ∧ upd H5 D (.lst (acc ++ ws)) = upd Hd D (.lst acc') ∧ Hd D = none ∧ Pre bo H0 (L2.wipe σ vs) Hd (wipe e vs) b F ∧ Ext bo F1 H1 F Hd ∧ RpA F acc' ad' ∧ ad'.length ≤ i + 1 ∧
                fin bo cs W (lF bo) σ F1 H1 ((lcL (lcT vs tgD gifs gelt e) (xs.drop (i + 1)) b).bind fun ys b2 => .ok (.list (ad' ++ ys)) b2) Q := fun {b5 F5 H5 ws ys} ht x5 z5 r5 hy1 => by
              have x35 : Ext bo F2 (upd Hd D (.lst acc)) F5 H5 := x3.of_none.trans x5 z5
              have hD5 : H5 D = some (.lst acc) := x35.keep D _ nD upd_same
              have FD5 : F5 D = none := x35.un FD2 upd_same
              have xr := x35.rem FD5
              rw [rem_upd hDn] at xr
              have zr : BoxRep bo F5 (rem H5 D) b5 := fun β hb => by
                obtain ⟨q1, q2⟩ := z5 β hb
                refine ⟨q1, ?_⟩
                rw [rem_ne (fun w => nD (by rw [← w]; exact hb.symm))]
                exact q2
              refine ⟨hD5, b5, F5, rem H5 D, acc ++ ws, ad ++ ys, hlt, rfl, ?_, rem_same, p2.step xr zr, x2.trans xr zr, (ra.mono xr.sf).append r5, ?_, ?_⟩
              · funext a
                by_cases w : a = D
                · rw [w, upd_same, upd_same]
                · rw [upd_ne w, upd_ne w, rem_ne w]
              · rw [List.length_append]
                omega
              · rw [ht] at h2
                have e1 : ∀ (r : R (List P)), (r.bind fun zs b2 => R.ok (ys ++ zs) b2).bind (fun zs b2 => R.ok (PyData.list (ad ++ zs)) b2) = r.bind fun zs b2 => R.ok (PyData.list (ad ++ ys ++ zs)) b2 := fun r => by
                  cases r with
                  | ok a b => show R.ok (PyData.list (ad ++ (ys ++ a))) b = _; rw [← List.append_assoc]; rfl
                  | ex c d b => rfl
                  | no => rfl
                rw [← e1]
                exact h2
            cases qa : asgn tgD d0 (wipe e vs) with
            | none =>
              have : lcT vs tgD gifs gelt e d0 b2 = .no := by
                dsimp only [lcT]
                rw [qa]
                rfl
              rw [this] at h2
              exact h2.elim
            | some e' =>
              have hT : lcT vs tgD gifs gelt e d0 b2 = R.noex ((gifs e' b2).bind fun t b2 => match truD t with
                  | some true => (gelt e' b2).bind fun y b3 => .ok [y] b3
                  | some false => .ok [] b2
                  | none => .no) := by
                dsimp only [lcT]
                rw [qa]
              refine ⟨wipe e vs, b2, F3, d0, e', p3, r3, qa, fun σ3 p3' l3 u3 => ⟨?_, e', b2, F3, p3', ?_⟩⟩
              · refine wipe_eq ?_ fun j hj => ?_
                · rw [l3, wipe_length]
                · rw [u3 j (fun w => hj (hix j w)), wipe_out hj]
              · dsimp only [gT]
                cases qf : gifs e' b2 with
                | no =>
                  rw [qf] at hT
                  rw [hT] at h2
                  exact h2.elim
                | ex c d b =>
                  rw [qf] at hT
                  rw [hT] at h2
                  exact h2.elim
                | ok t b4 =>
                  rw [qf] at hT
                  have hT : lcT vs tgD gifs gelt e d0 b2 = R.noex (match truD t with
                    | some true => (gelt e' b4).bind fun y b3 => .ok [y] b3
                    | some false => .ok [] b4
                    | none => .no) := hT
                  show finT bo cs W0 σ3 F3 H3 (R.ofO (truD t) b4) _
                  cases qt : truD t with
                  | none =>
                    rw [qt] at hT
                    rw [hT] at h2
                    exact h2.elim
                  | some tt =>
                    intro F4 H4 x4 z4
                    cases tt with
                    | false =>
                      rw [if_neg (by decide)]
                      rw [qt] at hT
                      have hT : lcT vs tgD gifs gelt e d0 b2 = .ok [] b4 := hT
                      obtain ⟨hD4, w⟩ := back hT x4 z4 .nil (Nat.zero_le _)
                      rw [List.append_nil] at w
                      have e2 : upd H4 D (.lst acc) = H4 := by
                        funext a
                        by_cases w : a = D
                        · rw [w, upd_same, hD4]
                        · rw [upd_ne w]
                      rw [e2] at w
                      exact w
                    | true =>
                      rw [if_pos rfl]
                      rw [qt] at hT
                      have hT : lcT vs tgD gifs gelt e d0 b2 = R.noex ((gelt e' b4).bind fun y b3 => .ok [y] b3) := hT
                      refine ⟨e', b4, F4, p3'.step x4 z4, ?_⟩
                      cases qe : gelt e' b4 with
                      | no =>
                        rw [qe] at hT
                        rw [hT] at h2
                        exact h2.elim
                      | ex c d b =>
                        rw [qe] at hT
                        rw [hT] at h2
                        exact h2.elim
                      | ok y5 b5 =>
                        rw [qe] at hT
                        have hT : lcT vs tgD gifs gelt e d0 b2 = .ok [y5] b5 := hT
                        intro w5 F5 H5 x5 z5 r5
                        obtain ⟨hD5, w⟩ := back hT (x4.trans x5 z5) z5 (.cons r5 .nil) (Nat.le_refl _)
                        exact ⟨acc, hD5, by rw [ra.length, ← line_eq]; exact Nat.lt_of_le_of_lt hal (Nat.lt_of_lt_of_le hlt hxl), w⟩
          · have hie : i = xs.length := by omega
            subst hie
            refine .inl ⟨(wk _ F2 _ x2').2 rfl, ?_⟩
            rw [List.drop_length] at h2
            have h2 : fin bo cs W (lF bo) σ F1 H1 (.ok (.list (ad ++ [])) b2) Q := h2
            rw [List.append_nil] at h2
            exact h2 _ F2 _ x2' (m1.box p2.box) ⟨D, acc, rfl, nD, hD, FD2, upd_same, ra⟩
      · exact h.elim
theorem snd_lc {elt tg iter : Expr} {ifs : List Expr} {scope : Scope} {own : List (Str × Nat)} {pos : Pos} {tgD : Tg} {git gifs gelt : Env → Bx → R P} (hc : X.calm = true) (hN : X.N.Nodup) (hi : PI X tg iter (liftI bo H0 cs W false git)) (ok : BlkOk X.N X.env.scope scope own)
    (hg : ∀ (s : Shared) (H : Hp) (C : Addr) (cl : List (Str × Addr)) (fp : List Addr), PG (X.blk s H scope (compEnvC scope cl C X.env) fp) tg (liftG bo H0 tgD))
    (ht : ∀ (s : Shared) (H : Hp) (C : Addr) (cl : List (Str × Addr)) (fp : List Addr), PTs (X.blk s H scope (compEnvC scope cl C X.env) fp) ifs (liftT bo H0 cs W0 (gT gifs)))
    (he : ∀ (s : Shared) (H : Hp) (C : Addr) (cl : List (Str × Addr)) (fp : List Addr), PE (X.blk s H scope (compEnvC scope cl C X.env) fp) elt (lift bo H0 cs W0 (lM bo .n) gelt)) (hs : notSet iter = true)
    (h0 : bo ≠ none → 0 ∉ own.map (·.2)) (hix : ∀ i, i ∈ tgIx tgD → i ∈ own.map (·.2)) :
    PE X (.ListComp elt [⟨tg, iter, ifs, 0⟩] scope pos) (lift bo H0 cs W (lF bo) (gLc (own.map (·.2)) tgD git gifs gelt)) := by
  exact PE.imp (pe_lc hc hN hi ok hg ht he (notSet_folded hs)) fun σ H Q h => lc_imp h0 hix σ H Q h
end
end Dv
/-! text D7 -/
set_option Elab.async false
set_option linter.all false
set_option maxRecDepth 100000
set_option maxHeartbeats 4000000
namespace Dv
open PySem PySem.Spec L2

/-! ### calls of built-ins -/
def rAD (bo : Option Addr) (f : List P → Option P) : List V → Hp → VK → Prop := fun vs H Q => ∃ F b ds z, Same F H ∧ BoxRep bo F H b ∧ Paired (RpM bo F H .r) vs ds ∧ f ds = some z ∧ ∀ w F' H', Ext none F H F' H' → FrR bo H F' H' w z → Q w H'
section
variable {X : Cx} {bo : Option Addr} {H0 : Hp} {cs : Cls'} {W : WX} {F H : Hp}
theorem pa1 {vs : List V} {d : P} (h : Paired (RpM bo F H .r) vs [d]) : ∃ v, vs = [v] ∧ RpR bo F H v d := by
  cases h with
  | cons r t =>
    cases t
    exact ⟨_, rfl, r⟩
theorem pa2 {vs : List V} {d d' : P} (h : Paired (RpM bo F H .r) vs [d, d']) : ∃ v v', vs = [v, v'] ∧ RpR bo F H v d ∧ RpR bo F H v' d' := by
  cases h with
  | cons r t =>
    cases t with
    | cons r' t =>
      cases t
      exact ⟨_, _, rfl, r, r'⟩
theorem rpA_ints : ∀ {vs : List V} {ds : List P} {ns : List Int}, RpA F vs ds → intsOf ds = some ns → vs = ns.map V.int
  | _, _, ns, .nil, h => by
    cases h
    rfl
  | _, _, ns, .cons (d := d) (ds := ds) r t, h => by
    cases d with
    | int i =>
      have h : (intsOf ds).map (i :: ·) = some ns := h
      cases q : intsOf ds with
      | none =>
        rw [q] at h
        cases h
      | some ms =>
        rw [q] at h
        cases h
        rw [rpA_ints t q]
        cases r
        rfl
    | _ => cases h
theorem rpA_bools : ∀ {vs : List V} {ds : List P} {ns : List Bool}, RpA F vs ds → boolsOf ds = some ns → vs = ns.map V.bl
  | _, _, ns, .nil, h => by
    cases h
    rfl
  | _, _, ns, .cons (d := d) (ds := ds) r t, h => by
    cases d with
    | bool i =>
      have h : (boolsOf ds).map (i :: ·) = some ns := h
      cases q : boolsOf ds with
      | none =>
        rw [q] at h
        cases h
      | some ms =>
        rw [q] at h
        cases h
        rw [rpA_bools t q]
        cases r
        rfl
    | _ => cases h
theorem cb_len : CallR X (.builtin "len") (rAD bo fLen) := by
  intro pins s σ H vs us Q I r h
  obtain ⟨F, b, ds, z, sF, q, rp, e, k⟩ := h
  unfold fLen at e
  split at e
  · rename_i x
    obtain ⟨v, rfl, rv⟩ := pa1 rp
    have e : (lenD x).map PyData.int = some z := e
    cases x with
    | list xs =>
      cases e
      obtain ⟨a, ws, rfl, n, ha, ra⟩ := rv
      exact call_len pins s σ H _ us Q I r ⟨_, _, rfl, .inl ⟨ws, SqL.of ha, ra.length.symm⟩, k _ F H (Ext.refl sF) (Flt.int _).fr⟩
    | tuple xs =>
      cases e
      obtain ⟨a, ws, rfl, ha, ra⟩ := rv.tup
      exact call_len pins s σ H _ us Q I r ⟨_, _, rfl, .inr ⟨ws, SqT.of (sF _ _ ha), ra.length.symm⟩, k _ F H (Ext.refl sF) (Flt.int _).fr⟩
    | str t =>
      have e : (if t.length ≤ line then some (t.length : Int) else none).map PyData.int = some z := e
      split at e
      · rename_i hl
        cases e
        have e1 := rv.str
        subst e1
        exact call_len pins s σ H _ us Q I r ⟨_, t.length, rfl, ⟨by rw [← line_eq]; exact hl, rfl⟩, k _ F H (Ext.refl sF) (Flt.int _).fr⟩
      · cases e
    | _ => cases e
  · cases e
theorem cb_abs : CallR X (.builtin "abs") (rAD bo fAbs) := by
  intro pins s σ H vs us Q I r h
  obtain ⟨F, b, ds, z, sF, q, rp, e, k⟩ := h
  unfold fAbs at e
  split at e
  · rename_i i
    obtain ⟨v, rfl, rv⟩ := pa1 rp
    have e1 := rv.int
    subst e1
    cases e
    exact call_abs pins s σ H _ us Q I r ⟨i, rfl, k _ F H (Ext.refl sF) (Flt.int _).fr⟩
  · cases e
theorem cb_int : CallR X (.type "int") (rAD bo fInt) := by
  intro pins s σ H vs us Q I r h
  obtain ⟨F, b, ds, z, sF, q, rp, e, k⟩ := h
  unfold fInt at e
  split at e
  · rename_i i
    obtain ⟨v, rfl, rv⟩ := pa1 rp
    have e1 := rv.int
    subst e1
    cases e
    exact call_int1 pins s σ H _ us Q I r (.inl ⟨i, rfl, k _ F H (Ext.refl sF) (Flt.int _).fr⟩)
  · rename_i i
    obtain ⟨v, rfl, rv⟩ := pa1 rp
    have e1 := rv.bool
    subst e1
    cases e
    exact call_int1 pins s σ H _ us Q I r (.inr ⟨i, rfl, k _ F H (Ext.refl sF) (Flt.int _).fr⟩)
  · cases e
theorem cb_bool : CallR X (.type "bool") (rAD bo fBool) := by
  intro pins s σ H vs us Q I r h
  obtain ⟨F, b, ds, z, sF, q, rp, e, k⟩ := h
  unfold fBool at e
  split at e
  · rename_i i
    obtain ⟨v, rfl, rv⟩ := pa1 rp
    have e1 := rv.bool
    subst e1
    cases e
    exact call_bool1 pins s σ H _ us Q I r (.inr ⟨i, rfl, k _ F H (Ext.refl sF) (Flt.bl _).fr⟩)
  · rename_i i
    obtain ⟨v, rfl, rv⟩ := pa1 rp
    have e1 := rv.int
    subst e1
    cases e
    exact call_bool1 pins s σ H _ us Q I r (.inl ⟨i, rfl, k _ F H (Ext.refl sF) (Flt.bl _).fr⟩)
  · cases e
theorem cb_tuple : CallR X (.type "tuple") (rAD bo fTuple) := by
  intro pins s σ H vs us Q I r h
  obtain ⟨F, b, ds, z, sF, q, rp, e, k⟩ := h
  unfold fTuple at e
  split at e
  · rename_i xs
    obtain ⟨v, rfl, rv⟩ := pa1 rp
    obtain ⟨a, ws, rfl, n, ha, ra⟩ := rv
    cases e
    exact call_tuple_of pins s σ H _ us Q I r ⟨a, ws, rfl, .inl ⟨SqL.of ha, fun l hl => by
      obtain ⟨F', m1, m2⟩ := made_tup sF hl ra
      exact k _ _ _ m1 m2⟩⟩
  · rename_i xs
    obtain ⟨v, rfl, rv⟩ := pa1 rp
    obtain ⟨a, ws, rfl, ha, ra⟩ := rv.tup
    cases e
    exact call_tuple_of pins s σ H _ us Q I r ⟨a, ws, rfl, .inr ⟨SqT.of (sF _ _ ha), k _ F H (Ext.refl sF) (Rp.tup ha ra)⟩⟩
  · cases e
theorem cb_list : CallR X (.type "list") (rAD bo fList) := by
  intro pins s σ H vs us Q I r h
  obtain ⟨F, b, ds, z, sF, q, rp, e, k⟩ := h
  unfold fList at e
  split at e
  · rename_i xs
    obtain ⟨v, rfl, rv⟩ := pa1 rp
    obtain ⟨a, ws, rfl, n, ha, ra⟩ := rv
    cases e
    exact call_list_of pins s σ H _ us Q I r ⟨a, ws, rfl, .inl (SqL.of ha), fun l hl => by
      obtain ⟨m1, m2⟩ := made_lst sF q hl ra
      exact k _ _ _ m1 m2⟩
  · rename_i xs
    obtain ⟨v, rfl, rv⟩ := pa1 rp
    obtain ⟨a, ws, rfl, ha, ra⟩ := rv.tup
    cases e
    exact call_list_of pins s σ H _ us Q I r ⟨a, ws, rfl, .inr (SqT.of (sF _ _ ha)), fun l hl => by
      obtain ⟨m1, m2⟩ := made_lst sF q hl ra
      exact k _ _ _ m1 m2⟩
  · cases e
theorem maxI_spec : ∀ {ns : List Int} {m : Int}, maxI ns = some m → m ∈ ns ∧ ∀ y ∈ ns, y ≤ m
  | [], m, h => by cases h
  | x :: xs, m, h => by
    have h : (match maxI xs with | none => some x | some y => some (if y < x then x else y)) = some m := h
    cases q : maxI xs with
    | none =>
      rw [q] at h
      cases h
      have : xs = [] := by
        cases xs with
        | nil => rfl
        | cons a as =>
          have q : (match maxI as with | none => some a | some y => some (if y < a then a else y)) = none := q
          split at q <;> cases q
      subst this
      exact ⟨List.mem_cons_self, fun y hy => by
        rcases List.mem_cons.mp hy with e | e
        · omega
        · cases e⟩
    | some y =>
      rw [q] at h
      obtain ⟨h1, h2⟩ := maxI_spec q
      by_cases c : y < x
      · rw [show (match some y with | none => some x | some y => some (if y < x then x else y)) = some x by simp [c]] at h
        cases h
        exact ⟨List.mem_cons_self, fun z hz => by
          rcases List.mem_cons.mp hz with e | e
          · omega
          · have := h2 z e
            omega⟩
      · rw [show (match some y with | none => some x | some y => some (if y < x then x else y)) = some y by simp [c]] at h
        cases h
        exact ⟨List.mem_cons_of_mem _ h1, fun z hz => by
          rcases List.mem_cons.mp hz with e | e
          · omega
          · exact h2 z e⟩
theorem minI_spec : ∀ {ns : List Int} {m : Int}, minI ns = some m → m ∈ ns ∧ ∀ y ∈ ns, m ≤ y
  | [], m, h => by cases h
  | x :: xs, m, h => by
    have h : (match minI xs with | none => some x | some y => some (if x < y then x else y)) = some m := h
    cases q : minI xs with
    | none =>
      rw [q] at h
      cases h
      have : xs = [] := by
        cases xs with
        | nil => rfl
        | cons a as =>
          have q : (match minI as with | none => some a | some y => some (if a < y then a else y)) = none := q
          split at q <;> cases q
      subst this
      exact ⟨List.mem_cons_self, fun y hy => by
        rcases List.mem_cons.mp hy with e | e
        · omega
        · cases e⟩
    | some y =>
      rw [q] at h
      obtain ⟨h1, h2⟩ := minI_spec q
      by_cases c : x < y
      · rw [show (match some y with | none => some x | some y => some (if x < y then x else y)) = some x by simp [c]] at h
        cases h
        exact ⟨List.mem_cons_self, fun z hz => by
          rcases List.mem_cons.mp hz with e | e
          · omega
          · have := h2 z e
            omega⟩
      · rw [show (match some y with | none => some x | some y => some (if x < y then x else y)) = some y by simp [c]] at h
        cases h
        exact ⟨List.mem_cons_of_mem _ h1, fun z hz => by
          rcases List.mem_cons.mp hz with e | e
          · omega
          · exact h2 z e⟩
theorem cb_sum (hc : X.calm = true) : CallR X (.builtin "sum") (rAD bo fSum) := by
  intro pins s σ H vs us Q I r h
  obtain ⟨F, b, ds, z, sF, q, rp, e, k⟩ := h
  unfold fSum at e
  split at e
  · rename_i xs
    obtain ⟨v, rfl, rv⟩ := pa1 rp
    obtain ⟨a, ws, rfl, n, ha, ra⟩ := rv
    cases qi : intsOf xs with
    | none =>
      rw [qi] at e
      cases e
    | some ns =>
      rw [qi] at e
      cases e
      have := rpA_ints ra qi
      subst this
      exact L2.cr_sum hc pins s σ H _ us Q I r ⟨a, ns, rfl, SqL.of ha, k _ F H (Ext.refl sF) (Flt.int _).fr⟩
  · cases e
theorem cb_all (hc : X.calm = true) : CallR X (.builtin "all") (rAD bo fAll) := by
  intro pins s σ H vs us Q I r h
  obtain ⟨F, b, ds, z, sF, q, rp, e, k⟩ := h
  unfold fAll at e
  split at e
  · rename_i xs
    obtain ⟨v, rfl, rv⟩ := pa1 rp
    obtain ⟨a, ws, rfl, n, ha, ra⟩ := rv
    have e : (boolsOf xs).map (fun bs => PyData.bool (bs.all id)) = some z := e
    cases qi : boolsOf xs with
    | none =>
      rw [qi] at e
      cases e
    | some ns =>
      rw [qi] at e
      cases e
      have := rpA_bools ra qi
      subst this
      exact L2.cr_all hc pins s σ H _ us Q I r ⟨a, ns, rfl, SqL.of ha, k _ F H (Ext.refl sF) (Flt.bl _).fr⟩
  · cases e
theorem cb_any (hc : X.calm = true) : CallR X (.builtin "any") (rAD bo fAny) := by
  intro pins s σ H vs us Q I r h
  obtain ⟨F, b, ds, z, sF, q, rp, e, k⟩ := h
  unfold fAny at e
  split at e
  · rename_i xs
    obtain ⟨v, rfl, rv⟩ := pa1 rp
    obtain ⟨a, ws, rfl, n, ha, ra⟩ := rv
    have e : (boolsOf xs).map (fun bs => PyData.bool (bs.any id)) = some z := e
    cases qi : boolsOf xs with
    | none =>
      rw [qi] at e
      cases e
    | some ns =>
      rw [qi] at e
      cases e
      have := rpA_bools ra qi
      subst this
      exact L2.cr_any hc pins s σ H _ us Q I r ⟨a, ns, rfl, SqL.of ha, k _ F H (Ext.refl sF) (Flt.bl _).fr⟩
  · cases e
/-! max, min of a tuple of ints -/
theorem readsAll_ints {h : Heap} : ∀ {its : List Value} {ns : List Int}, PyProof.Rows.IntsAre its ns → ∃ as, ReadsAll h its (ns.map .int) as
  | _, _, .nil => ⟨[], .nil⟩
  | _, _, .cons n t r => by
    obtain ⟨as, q⟩ := readsAll_ints (h := h) r
    exact ⟨[] ++ as, .cons (.int n t) q⟩
theorem alikeAll_ints (ns : List Int) : PySem.W.AlikeAll (ns.map PyData.int) := by
  refine ⟨fun x hx y hy => ?_, fun x hx => ?_⟩
  · obtain ⟨i, _, rfl⟩ := List.mem_map.mp hx
    obtain ⟨j, _, rfl⟩ := List.mem_map.mp hy
    simp [PySem.W.alike]
  · obtain ⟨i, _, rfl⟩ := List.mem_map.mp hx
    intro z
    cases z
theorem foldl_max_le (ns : List Int) : ∀ (n m : Int), (m = n ∨ m ∈ ns) → (∀ y, (y = n ∨ y ∈ ns) → y ≤ m) → ns.foldl max n = m := by
  induction ns with
  | nil =>
    intro n m h1 h2
    rcases h1 with h1 | h1
    · exact h1.symm
    · cases h1
  | cons k r ih =>
    intro n m h1 h2
    rw [List.foldl_cons]
    have hn := h2 n (.inl rfl)
    have hk := h2 k (.inr List.mem_cons_self)
    refine ih (max n k) m ?_ fun y hy => ?_
    · rcases h1 with h1 | h1
      · left
        omega
      · rcases List.mem_cons.mp h1 with h1 | h1
        · left
          omega
        · exact .inr h1
    · rcases hy with hy | hy
      · omega
      · exact h2 y (.inr (List.mem_cons_of_mem _ hy))
theorem foldl_min_le (ns : List Int) : ∀ (n m : Int), (m = n ∨ m ∈ ns) → (∀ y, (y = n ∨ y ∈ ns) → m ≤ y) → ns.foldl min n = m := by
  induction ns with
  | nil =>
    intro n m h1 h2
    rcases h1 with h1 | h1
    · exact h1.symm
    · cases h1
  | cons k r ih =>
    intro n m h1 h2
    rw [List.foldl_cons]
    have hn := h2 n (.inl rfl)
    have hk := h2 k (.inr List.mem_cons_self)
    refine ih (min n k) m ?_ fun y hy => ?_
    · rcases h1 with h1 | h1
      · left
        omega
      · rcases List.mem_cons.mp h1 with h1 | h1
        · left
          omega
        · exact .inr h1
    · rcases hy with hy | hy
      · omega
      · exact h2 y (.inr (List.mem_cons_of_mem _ hy))
theorem depthAll_ints : ∀ ns : List Int, PyData.depthAll (ns.map PyData.int) = 0
  | [] => by simp [PyData.depthAll]
  | x :: xs => by
    show PyData.depthAll (.int x :: xs.map .int) = 0
    rw [PyData.depthAll, depthAll_ints xs]
    simp [PyData.depth]
theorem cb_max (hc : X.calm = true) (hu : X.A.units + 70 < cLine) : CallR X (.builtin "max") (rAD bo fMax) := by
  intro pins s σ H vs us Q I r h
  obtain ⟨F, b, ds, z, sF, q, rp, e, k⟩ := h
  unfold fMax at e
  split at e
  · rename_i xs
    obtain ⟨v, rfl, rv⟩ := pa1 rp
    obtain ⟨a, ws, rfl, n, ha, ra⟩ := rv
    cases qi : intsOf xs with
    | none =>
      rw [qi] at e
      cases e
    | some ns =>
      rw [qi] at e
      have e : (maxI ns).map PyData.int = some z := e
      cases qm : maxI ns with
      | none =>
        rw [qm] at e
        cases e
      | some m =>
        rw [qm] at e
        cases e
        have := rpA_ints ra qi
        subst this
        obtain ⟨s1, s2⟩ := maxI_spec qm
        refine L2.cr_max hc pins s σ H _ us Q I r ⟨a, ns, rfl, SqL.of ha, List.length_pos_of_mem s1, fun m' h1 h2 => ?_⟩
        have : m' = m := by
          have a1 := h2 m s1
          have a2 := s2 m' h1
          omega
        subst this
        exact k _ F H (Ext.refl sF) (Flt.int _).fr
  · rename_i xs
    obtain ⟨v, rfl, rv⟩ := pa1 rp
    obtain ⟨a, ws, rfl, ha, ra⟩ := rv.tup
    cases qi : intsOf xs with
    | none =>
      rw [qi] at e
      cases e
    | some ns =>
      rw [qi] at e
      have e : (maxI ns).map PyData.int = some z := e
      cases qm : maxI ns with
      | none =>
        rw [qm] at e
        cases e
      | some m =>
        rw [qm] at e
        cases e
        have := rpA_ints ra qi
        subst this
        obtain ⟨s1, s2⟩ := maxI_spec qm
        cases ns with
        | nil => cases s1
        | cons n ns =>
          obtain ⟨its, rv2, hl, _⟩ := I.tuple (SqT.of (sF _ _ ha))
          rw [Vals.ref1 r]
          obtain ⟨as, q1⟩ := readsAll_ints (h := s.heap) rv2.ints
          refine PySem.W.max_tuple_data (x := .int n) (xs := ns.map .int) (I.ok.hd hc) hl q1 (alikeAll_ints (n :: ns)) (by have := depthAll_ints (n :: ns); rw [List.map_cons] at this; rw [this]; omega) fun i v h' tk bs hv rd hk => ?_
          rw [PySem.W.maxD_ints, foldl_max_le ns n m (List.mem_cons.mp s1) (fun y hy => s2 y (List.mem_cons.mpr hy))] at rd
          cases rd
          exact ⟨.int _, H, I.kept hk, ⟨_, rfl⟩, k _ F H (Ext.refl sF) (Flt.int _).fr⟩
  · obtain ⟨v, v', rfl, rv, rv'⟩ := pa2 rp
    have e1 := rv.int
    have e2 := rv'.int
    subst e1
    subst e2
    cases e
    exact call_max2 hc pins s σ H _ us Q I r ⟨_, _, rfl, k _ F H (Ext.refl sF) (Flt.int _).fr⟩
  · cases e
theorem cb_min (hc : X.calm = true) (hu : X.A.units + 70 < cLine) : CallR X (.builtin "min") (rAD bo fMin) := by
  intro pins s σ H vs us Q I r h
  obtain ⟨F, b, ds, z, sF, q, rp, e, k⟩ := h
  unfold fMin at e
  split at e
  · rename_i xs
    obtain ⟨v, rfl, rv⟩ := pa1 rp
    obtain ⟨a, ws, rfl, n, ha, ra⟩ := rv
    cases qi : intsOf xs with
    | none =>
      rw [qi] at e
      cases e
    | some ns =>
      rw [qi] at e
      have e : (minI ns).map PyData.int = some z := e
      cases qm : minI ns with
      | none =>
        rw [qm] at e
        cases e
      | some m =>
        rw [qm] at e
        cases e
        have := rpA_ints ra qi
        subst this
        obtain ⟨s1, s2⟩ := minI_spec qm
        refine L2.cr_min hc pins s σ H _ us Q I r ⟨a, ns, rfl, SqL.of ha, List.length_pos_of_mem s1, fun m' h1 h2 => ?_⟩
        have : m' = m := by
          have a1 := h2 m s1
          have a2 := s2 m' h1
          omega
        subst this
        exact k _ F H (Ext.refl sF) (Flt.int _).fr
  · rename_i xs
    obtain ⟨v, rfl, rv⟩ := pa1 rp
    obtain ⟨a, ws, rfl, ha, ra⟩ := rv.tup
    cases qi : intsOf xs with
    | none =>
      rw [qi] at e
      cases e
    | some ns =>
      rw [qi] at e
      have e : (minI ns).map PyData.int = some z := e
      cases qm : minI ns with
      | none =>
        rw [qm] at e
        cases e
      | some m =>
        rw [qm] at e
        cases e
        have := rpA_ints ra qi
        subst this
        obtain ⟨s1, s2⟩ := minI_spec qm
        cases ns with
        | nil => cases s1
        | cons n ns =>
          obtain ⟨its, rv2, hl, _⟩ := I.tuple (SqT.of (sF _ _ ha))
          rw [Vals.ref1 r]
          obtain ⟨as, q1⟩ := readsAll_ints (h := s.heap) rv2.ints
          refine PySem.W.min_tuple_data (x := .int n) (xs := ns.map .int) (I.ok.hd hc) hl q1 (alikeAll_ints (n :: ns)) (by have := depthAll_ints (n :: ns); rw [List.map_cons] at this; rw [this]; omega) fun i v h' tk bs hv rd hk => ?_
          rw [PySem.W.minD_ints, foldl_min_le ns n m (List.mem_cons.mp s1) (fun y hy => s2 y (List.mem_cons.mpr hy))] at rd
          cases rd
          exact ⟨.int _, H, I.kept hk, ⟨_, rfl⟩, k _ F H (Ext.refl sF) (Flt.int _).fr⟩
  · obtain ⟨v, v', rfl, rv, rv'⟩ := pa2 rp
    have e1 := rv.int
    have e2 := rv'.int
    subst e1
    subst e2
    cases e
    exact call_min2 hc pins s σ H _ us Q I r ⟨_, _, rfl, k _ F H (Ext.refl sF) (Flt.int _).fr⟩
  · cases e
/-- f(e, ..), f a built-in -/
theorem biE {f : List P → Option P} {gs : Env → Bx → R P} (σ : L2.St) (H : Hp) (Q : VK) (h : lift bo H0 cs W (lF bo) (fun e b => (gs e b).bind fun ds b1 => R.ofO (f (argsOf ds)) b1) σ H Q) : tCB (rAD bo f) (liftA bo H0 cs W .r gs) σ H Q := by
  obtain ⟨e, b, F, p, h⟩ := h
  refine ⟨e, b, F, p, fin_bindA hRFf p h fun ds b1 vs F1 H1 p1 x1 r1 h1 => ?_⟩
  cases q : f (argsOf ds) with
  | none =>
    rw [q] at h1
    exact h1.elim
  | some z =>
    rw [q] at h1
    exact ⟨F1, b1, argsOf ds, z, p1.sub, p1.box, r1, q, fun w F' H' x r => h1 w F' H' x.of_none (x.box p1.box) r⟩
theorem snd_biB {ov fr : Bool} {x : Str} {id : String} {f : List P → Option P} {e : Expr} {es : List Expr} {p pos : Pos} {gs : Env → Bx → R P} (hc : CallR X (.builtin id) (rAD bo f)) (hg : Gl X x) (hm : X.mg x = none) (hv : bootBuiltins x = some (.builtin id)) (ha : PA X (e :: es) (liftA bo H0 cs W .r gs))
    (hn : x ≠ "__name__") (hdb : (x == ("__debug__" : Str)) = false) (hp : allPlain (e :: es) = true) : Snd X bo H0 cs W ov fr (.Call (.Name x p) (e :: es) [] pos) fun e b => (gs e b).bind fun ds b1 => R.ofO (f (argsOf ds)) b1 := by
  have hp' := hp
  unfold allPlain at hp'
  rw [List.all_cons, Bool.and_eq_true] at hp'
  exact Snd.of_f (PE.imp (pe_callB hc hg hm hv ha hn hdb (starEach_of hp'.1) (noStars hp'.2)) biE) rfl
theorem snd_biT {ov fr : Bool} {x : Str} {id : String} {f : List P → Option P} {e : Expr} {es : List Expr} {p pos : Pos} {gs : Env → Bx → R P} (hc : CallR X (.type id) (rAD bo f)) (hg : Gl X x) (hm : X.mg x = none) (hv : bootBuiltins x = some (.type id)) (ha : PA X (e :: es) (liftA bo H0 cs W .r gs))
    (hn : x ≠ "__name__") (hdb : (x == ("__debug__" : Str)) = false) (hp : allPlain (e :: es) = true) : Snd X bo H0 cs W ov fr (.Call (.Name x p) (e :: es) [] pos) fun e b => (gs e b).bind fun ds b1 => R.ofO (f (argsOf ds)) b1 := by
  have hp' := hp
  unfold allPlain at hp'
  rw [List.all_cons, Bool.and_eq_true] at hp'
  exact Snd.of_f (PE.imp (pe_callTy hc hg hm hv ha hn hdb (starEach_of hp'.1) (noStars hp'.2)) biE) rfl

/-! isinstance -/
def tyOfD : P → String
  | .none => "NoneType"
  | .bool _ => "bool"
  | .int _ => "int"
  | .str _ => "str"
  | .list _ => "list"
  | .tuple _ => "tuple"
  | .dict _ => "dict"
theorem tyX_of {K : PySem.W.Frag} {v : V} {d : P} (s : Same F H) (r : RpR bo F H v d) : TyX K H v (.type (tyOfD d)) ∧ ∀ x, d ≠ .dict x := by
  cases d with
  | none =>
    cases (show Rp F v .none from r)
    exact ⟨.base .non, fun _ z => nomatch z⟩
  | bool b =>
    rw [r.bool]
    exact ⟨.base (.bl _), fun _ z => nomatch z⟩
  | int b =>
    rw [r.int]
    exact ⟨.base (.int _), fun _ z => nomatch z⟩
  | str b =>
    rw [r.str]
    exact ⟨.base (.str _), fun _ z => nomatch z⟩
  | list ds =>
    obtain ⟨a, vs, rfl, n, h, _⟩ := r
    exact ⟨.base (.lst h), fun _ z => nomatch z⟩
  | tuple ds =>
    obtain ⟨a, vs, rfl, h, _⟩ := r.tup
    exact ⟨.base (.tup (s _ _ h)), fun _ z => nomatch z⟩
  | dict ds => cases (show Rp F v (.dict ds) from r)
def tyName : Ty → Option String
  | .int_ => some "int"
  | .str_ => some "str"
  | .bool_ => some "bool"
  | .tuple_ => some "tuple"
  | .list_ => some "list"
  | _ => none
theorem kit_all {t : Ty} {n : String} (h : tyName t = some n) (d : P) (hd : ∀ x, d ≠ .dict x) : kitB (tyOfD d) n = isiD t d := by
  cases t <;> cases h <;> cases d <;> first
    | exact absurd rfl (hd _)
    | exact (by decide +kernel : kitB "NoneType" "int" = some false)
    | exact (by decide +kernel : kitB "NoneType" "str" = some false)
    | exact (by decide +kernel : kitB "NoneType" "bool" = some false)
    | exact (by decide +kernel : kitB "NoneType" "tuple" = some false)
    | exact (by decide +kernel : kitB "NoneType" "list" = some false)
    | exact (by decide +kernel : kitB "bool" "int" = some true)
    | exact (by decide +kernel : kitB "bool" "str" = some false)
    | exact (by decide +kernel : kitB "bool" "bool" = some true)
    | exact (by decide +kernel : kitB "bool" "tuple" = some false)
    | exact (by decide +kernel : kitB "bool" "list" = some false)
    | exact (by decide +kernel : kitB "int" "int" = some true)
    | exact (by decide +kernel : kitB "int" "str" = some false)
    | exact (by decide +kernel : kitB "int" "bool" = some false)
    | exact (by decide +kernel : kitB "int" "tuple" = some false)
    | exact (by decide +kernel : kitB "int" "list" = some false)
    | exact (by decide +kernel : kitB "str" "int" = some false)
    | exact (by decide +kernel : kitB "str" "str" = some true)
    | exact (by decide +kernel : kitB "str" "bool" = some false)
    | exact (by decide +kernel : kitB "str" "tuple" = some false)
    | exact (by decide +kernel : kitB "str" "list" = some false)
    | exact (by decide +kernel : kitB "list" "int" = some false)
    | exact (by decide +kernel : kitB "list" "str" = some false)
    | exact (by decide +kernel : kitB "list" "bool" = some false)
    | exact (by decide +kernel : kitB "list" "tuple" = some false)
    | exact (by decide +kernel : kitB "list" "list" = some true)
    | exact (by decide +kernel : kitB "tuple" "int" = some false)
    | exact (by decide +kernel : kitB "tuple" "str" = some false)
    | exact (by decide +kernel : kitB "tuple" "bool" = some false)
    | exact (by decide +kernel : kitB "tuple" "tuple" = some true)
    | exact (by decide +kernel : kitB "tuple" "list" = some false)
theorem isi_one {t : Ty} {n : String} {ov fr o1 f1 : Bool} {a : Expr} {p p2 pos : Pos} {ga : Env → Bx → R P} (ht : tyName t = some n) (hg : Gl X "isinstance") (hm : X.mg "isinstance" = none) (hg2 : Gl X (Str.ofString n)) (hm2 : X.mg (Str.ofString n) = none) (hv2 : bootBuiltins (Str.ofString n) = some (.type n))
    (hn2 : Str.ofString n ≠ "__name__") (hd2 : (Str.ofString n == ("__debug__" : Str)) = false) (ha : Snd X bo H0 cs W o1 f1 a ga) (hs : notStar a = true) :
    Snd X bo H0 cs W ov fr (.Call (.Name "isinstance" p) [a, .Name (Str.ofString n) p2] [] pos) fun e b => (ga e b).bind fun d b1 => R.ofO ((isiD t d).map .bool) b1 := by
  have hb : PE X (.Name (Str.ofString n) p2) (tC (.ty n)) := pe_bltn hg2 hm2 hv2 rfl hn2 hd2
  have hpa := pa_cons ha.r (pa_cons hb pa_nil (by rfl)) (starEach_of hs)
  refine Snd.of_f (PE.imp (pe_callB call_isi hg hm (by decide +kernel) hpa (by decide) (by decide) (starEach_of hs) (by rfl)) fun σ H Q ⟨e, b, F, p, h⟩ => ⟨e, b, F, p, fin_bind hRFf p h fun d b1 v F1 H1 p1 x1 r1 h1 => ?_⟩) rfl
  obtain ⟨ty, nd⟩ := tyX_of (K := X.K) p1.sub (show RpR bo F1 H1 v d from r1)
  cases q : isiD t d with
  | none =>
    rw [q] at h1
    exact h1.elim
  | some z =>
    rw [q] at h1
    exact ⟨v, .ty n, _, _, z, rfl, .ty n, ty, kit_ty (by rw [kit_all ht d nd, q]), h1 _ F1 H1 (Ext.refl p1.sub) p1.box (Flt.bl z).fr⟩
/-- isinstance(x, (T1, T2)) -/
theorem isi_two {t t1 t2 : Ty} {n1 n2 : String} {ov fr o1 f1 : Bool} {a : Expr} {p pa pb pt pos : Pos} {k : Nat} {ga : Env → Bx → R P} (ht1 : tyName t1 = some n1) (ht2 : tyName t2 = some n2) (hor : ∀ d b1 b2, isiD t1 d = some b1 → isiD t2 d = some b2 → isiD t d = some (b1 || b2)) (hg : Gl X "isinstance") (hm : X.mg "isinstance" = none)
    (hg1 : Gl X (Str.ofString n1)) (hm1 : X.mg (Str.ofString n1) = none) (hv1 : bootBuiltins (Str.ofString n1) = some (.type n1)) (hn1 : Str.ofString n1 ≠ "__name__") (hd1 : (Str.ofString n1 == ("__debug__" : Str)) = false)
    (hg2 : Gl X (Str.ofString n2)) (hm2 : X.mg (Str.ofString n2) = none) (hv2 : bootBuiltins (Str.ofString n2) = some (.type n2)) (hn2 : Str.ofString n2 ≠ "__name__") (hd2 : (Str.ofString n2 == ("__debug__" : Str)) = false) (ha : Snd X bo H0 cs W o1 f1 a ga) (hs : notStar a = true) :
    Snd X bo H0 cs W ov fr (.Call (.Name "isinstance" p) [a, .Tuple [.Name (Str.ofString n1) pa, .Name (Str.ofString n2) pb] k pt] [] pos) fun e b => (ga e b).bind fun d b1 => R.ofO ((isiD t d).map .bool) b1 := by
  have hb1 : PE X (.Name (Str.ofString n1) pa) (tC (.ty n1)) := pe_bltn hg1 hm1 hv1 rfl hn1 hd1
  have hb2 : PE X (.Name (Str.ofString n2) pb) (tC (.ty n2)) := pe_bltn hg2 hm2 hv2 rfl hn2 hd2
  have htup : PE X (.Tuple [.Name (Str.ofString n1) pa, .Name (Str.ofString n2) pb] k pt) _ := pe_tup (pa_cons hb1 (pa_cons hb2 pa_nil (by rfl)) (by rfl))
  have hpa := pa_cons ha.r (pa_cons htup pa_nil (by rfl)) (starEach_of hs)
  refine Snd.of_f (PE.imp (pe_callB call_isiT hg hm (by decide +kernel) hpa (by decide) (by decide) (starEach_of hs) (by rfl)) fun σ H Q ⟨e, b, F, p, h⟩ => ⟨e, b, F, p, fin_bind hRFf p h fun d b1 v F1 H1 p1 x1 r1 h1 => ?_⟩) rfl
  obtain ⟨ty, nd⟩ := tyX_of (K := X.K) p1.sub (show RpR bo F1 H1 v d from r1)
  refine ⟨by show 2 ≤ sizeLine; decide, fun q hq => ?_⟩
  have xq : Ext none F1 H1 F1 (upd H1 q (.tup [.ty n1, .ty n2])) := ⟨Same.refl _, fun c o hc => by
      rw [upd_ne (ne_of_none (p1.sub _ _ hc) hq)]
      exact p1.sub _ _ hc, fun c o _ hc => by
      rw [upd_ne (ne_of_none hc hq)]
      exact hc, fun c o h1 h2 => by
      rw [h1] at h2
      cases h2⟩
  obtain ⟨ty', _⟩ := tyX_of (K := X.K) xq.sub (RpR.mono (bo := bo) xq.of_none r1)
  cases q1 : isiD t1 d with
  | none => cases t1 <;> cases q1
  | some z1 =>
    cases q2 : isiD t2 d with
    | none => cases t2 <;> cases q2
    | some z2 =>
      rw [hor d z1 z2 q1 q2] at h1
      refine ⟨v, q, [.ty n1, .ty n2], _, [.type n1, .type n2], z1 || z2, rfl, upd_same, .cons (.ty _) (.cons (.ty _) .nil), ty', ?_, h1 _ F1 _ xq.of_none (xq.box p1.box) (Flt.bl _).fr⟩
      refine kitAny_cons (b := z1) (kit_ty (by rw [kit_all ht1 d nd, q1])) (fun e1 => ?_) (fun e1 => by rw [e1]; rfl)
      refine kitAny_cons (b := z2) (kit_ty (by rw [kit_all ht2 d nd, q2])) (fun e2 => ?_) (fun e2 => by rw [e1, e2]; rfl)
      rw [e1, e2]
      exact kitAny_nil
end
end Dv
/-! text D8 -/
set_option Elab.async false
set_option linter.all false
set_option maxRecDepth 100000
set_option maxHeartbeats 4000000
namespace Dv
open PySem PySem.Spec L2

/-! ### calls of the text's defs -/
abbrev lR (fr : Bool) (bo : Option Addr) : Hp → Hp → Hp → V → P → Prop := if fr = true then lF bo else lM bo .n
/-- the promise of a def: what it gives for data -/
def spOf (cs : Cls') (bxd fr : Bool) (np : Nat) (g : List P → Bx → R P) : Sp := fun vs H Q E => vs.length = np ∧ ∃ (bo : Option Addr) (F : Hp) (b : Bx) (ws : List V) (ds : List P),
  (bxd = true → ∃ β, bo = some β ∧ vs = .ref β :: ws) ∧ (bxd = false → bo = none ∧ vs = ws) ∧ Same F H ∧ BoxRep bo F H b ∧ RpA F ws ds ∧ fin bo cs (fun cls dd _ H' => E cls dd H') (lR fr bo) [] F H (g ds b) Q
/-- the def f stands at x, at level k -/
def FnAt (X : Cx) (cs : Cls') (x : Str) (bxd fr : Bool) (np : Nat) (g : List P → Bx → R P) : Prop :=
  ∃ (fa : Addr) (fd : FuncData) (ps : List Str) (k : Nat), X.mg x = some (.ref fa) ∧ PySem.W.keepIn X.K (.ref fa) = true ∧ FnOk X.prog X.w X.K X.mg X.base (L2.CX X.prog X.w) k fa fd ps (spOf cs bxd fr np g) ∧ Binds X.K fd ps [] ∧ Room k X.A
section
variable {X : Cx} {bo : Option Addr} {H0 : Hp} {cs : Cls'} {W : WX}
theorem lR_up {fr : Bool} {b : Bx} {F H F' H' : Hp} {v : V} {d : P} (q : BoxRep bo F H b) (r : lR fr none H F' H' v d) : lR fr bo H F' H' v d := by
  cases fr with
  | false => exact r
  | true =>
    have r : FrR none H F' H' v d := r
    show FrR bo H F' H' v d
    cases d with
    | list ds =>
      obtain ⟨a, vs, e, n, hb, r⟩ := r
      refine ⟨a, vs, e, fun z => ?_, hb, r⟩
      have := (q _ z.symm).2
      rw [hb] at this
      cases this
    | none => exact r
    | bool b => exact r
    | int i => exact r
    | str z => exact r
    | tuple ds => exact r
    | dict ds => exact r
theorem hRR {fr : Bool} : ∀ (H H1 F' H' : Hp) v d, lR fr bo H1 F' H' v d → (∀ a, H1 a = none → H a = none) → lR fr bo H F' H' v d := by
  cases fr with
  | false => exact fun H H1 F' H' v d h _ => h
  | true => exact hRFf
/-- a result that is fresh, or frozen -/
theorem Snd.of_R {ov fr : Bool} {e : Expr} {g : Env → Bx → R P} (h : PE X e (lift bo H0 cs W (lR fr bo) g)) (hp : plainT e = true) : Snd X bo H0 cs W ov fr e g := by
  cases fr with
  | false => exact Snd.of_n h hp
  | true => exact Snd.of_f h hp
abbrev gCall (φf : List P → Bx → R P) (gs : Env → Bx → R P) : Env → Bx → R P := fun e b => (gs e b).bind fun ds b1 => match φf (argsOf ds) b0 with
    | .ok d _ => .ok d b1
    | .ex c d _ => .ex c d b1
    | .no => .no
theorem none_in {F H F' H' : Hp} {b1 b2 : Bx} {fr : Bool} {σ : L2.St} {r : R P} {Q : VK} (q : BoxRep bo F H b1) (h : fin bo cs W (lR fr bo) σ F H (match r with | .ok d _ => R.ok d b1 | .ex c d _ => .ex c d b1 | .no => .no) Q) :
    fin none cs (fun cls dd _ H' => W cls dd σ H') (lR fr none) [] F H r Q := by
  cases r with
  | ok d b => exact fun v F' H' x z r => h v F' H' x.of_none (x.box q) (lR_up q r)
  | ex c d b => exact fun dd F' H' x z r => h dd F' H' x.of_none (x.box q) r
  | no => exact h.elim
theorem snd_call {ov fr : Bool} {x : Str} {np : Nat} {g : List P → Bx → R P} {e : Expr} {es : List Expr} {p pos : Pos} {gs : Env → Bx → R P} (tk : Takes X W) (F : FnAt X cs x false fr np g) (hg : Gl X x) (ha : PA X (e :: es) (liftA bo H0 cs W .n gs)) (hdb : (x == ("__debug__" : Str)) = false)
    (hp : allPlain (e :: es) = true) (hnp : (e :: es).length = np) (hlen : ∀ en b d b', gs en b = .ok d b' → (argsOf d).length = (e :: es).length) : Snd X bo H0 cs W ov fr (.Call (.Name x p) (e :: es) [] pos) (gCall g gs) := by
  obtain ⟨fa, fd, ps, k, hm, hk, F, hb, hr⟩ := F
  have hp' := hp
  unfold allPlain at hp'
  rw [List.all_cons, Bool.and_eq_true] at hp'
  refine Snd.of_R (PE.imp (pe_callS F hr hg hm hk hb (fun σ => passAt tk σ) ha hdb (starEach_of hp'.1) (noStars hp'.2)) fun σ H Q ⟨en, b, F, p, h⟩ => ⟨en, b, F, p, ?_⟩) rfl
  have hl := hlen en b
  cases q : gs en b with
  | no =>
    dsimp only [gCall] at h
    rw [q] at h
    exact h
  | ex c d b1 =>
    dsimp only [gCall] at h
    rw [q] at h
    exact h
  | ok ds b1 =>
    dsimp only [gCall] at h
    rw [q] at h
    intro vs F1 H1 x z r
    have p1 := p.step x z
    have h1 := fin_step (Rl := lR fr bo) (fun F' H' v d => hRR H H1 F' H' v d) z x h
    have ra := Paired.rpA r
    refine ⟨by rw [ra.length, hl ds b1 q, hnp], none, F1, b0, vs, argsOf ds, (fun w => nomatch w), fun _ => ⟨rfl, rfl⟩, p1.sub, (fun β w => nomatch w), ra, ?_⟩
    exact none_in (F' := F1) (H' := H1) (b2 := b1) p1.box h1
theorem snd_call0 {ov fr : Bool} {x : Str} {g : List P → Bx → R P} {p pos : Pos} (tk : Takes X W) (F : FnAt X cs x false fr 0 g) (hg : Gl X x) (hdb : (x == ("__debug__" : Str)) = false) :
    Snd X bo H0 cs W ov fr (.Call (.Name x p) [] [] pos) (gCall g fun _ b => .ok (.list []) b) := by
  obtain ⟨fa, fd, ps, k, hm, hk, F, hb, hr⟩ := F
  refine Snd.of_R ⟨fun pins s σ H Q I ⟨en, b, F', p, h⟩ => ?_⟩ rfl
  refine wpAny_Call_Name_kw (ld_glob I hg hm ?_ hdb)
  refine PySem.W.callWith_K0 I.kIn hk (run_fnS (us := []) (E := WE W) F hr hb (passAt tk σ) I .nil ?_)
  exact ⟨rfl, none, F', b0, [], [], (fun w => nomatch w), fun _ => ⟨rfl, rfl⟩, p.sub, (fun β w => nomatch w), .nil, none_in (F' := F') (H' := H) (b2 := b) p.box h⟩
/-- f(box, e, ..) -/
theorem snd_callB {ov fr : Bool} {x y : Str} {np : Nat} {g : List P → Bx → R P} {es : List Expr} {p py pos : Pos} {gs : Env → Bx → R P} (tk : Takes X W) (F : FnAt X cs x true fr np g) (hg : Gl X x) (ha : PA X es (liftA bo H0 cs W .n gs)) (hdb : (x == ("__debug__" : Str)) = false)
    (hbo : bo ≠ none) (hN : X.N[0]? = some y) (hv : Vis X.env.scope y) (hd : (y == ("__debug__" : Str)) = false) (hcd : (y == ("__classdict__" : Str)) = false)
    (hp : allPlain es = true) (hnp : es.length + 1 = np) (hlen : ∀ en b d b', gs en b = .ok d b' → (argsOf d).length = es.length) :
    Snd X bo H0 cs W ov fr (.Call (.Name x p) (.Name y py :: es) [] pos) fun e b => (gs e b).bind fun ds b1 => g (argsOf ds) b1 := by
  obtain ⟨fa, fd, ps, k, hm, hk, F, hb, hr⟩ := F
  obtain ⟨β, hβ⟩ := Option.ne_none_iff_exists'.mp hbo
  refine Snd.of_R (PE.imp (pe_callS F hr hg hm hk hb (fun σ => passAt tk σ) (pa_cons (pe_var hN hv hd hcd) ha (by rfl)) hdb (by rfl) (noStars hp)) fun σ H Q ⟨en, b, F, p, h⟩ => ⟨.ref β, p.bs β hβ, en, b, F, p, ?_⟩) rfl
  have hl := hlen en b
  cases q : gs en b with
  | no =>
    dsimp only at h
    rw [q] at h
    exact h
  | ex c d b1 =>
    dsimp only at h
    rw [q] at h
    exact h
  | ok ds b1 =>
    dsimp only at h
    rw [q] at h
    intro vs F1 H1 x z r
    have p1 := p.step x z
    have h1 := fin_step (Rl := lR fr bo) (fun F' H' v d => hRR H H1 F' H' v d) z x h
    have ra := Paired.rpA r
    refine ⟨by rw [List.length_cons, ra.length, hl ds b1 q, hnp], bo, F1, b1, vs, argsOf ds, fun _ => ⟨β, hβ, rfl⟩, (fun w => nomatch w), p1.sub, p1.box, ra, ?_⟩
    have h1 : fin bo cs W (lR fr bo) σ F1 H1 (g (argsOf ds) b1) Q := h1
    cases q2 : g (argsOf ds) b1 with
    | ok d b => rw [q2] at h1; exact h1
    | ex c d b => rw [q2] at h1; exact h1
    | no => rw [q2] at h1; exact h1.elim
theorem boxOf_eq {d : P} {bx : Bx} (h : boxOf d = some bx) : d = .list [.int bx.1, .int bx.2.1, .int bx.2.2] := by
  unfold boxOf at h
  split at h
  · cases h
    rfl
  · cases h
/-- f(a new source, e, ..) -/
theorem snd_callX {ov o1 : Bool} {x : Str} {np : Nat} {g : List P → Bx → R P} {a : Expr} {es : List Expr} {p pos : Pos} {ga gs : Env → Bx → R P} (tk : Takes X W) (F : FnAt X cs x true false np g) (hg : Gl X x) (ha : Snd X bo H0 cs W o1 true a ga) (hs : PA X es (liftA bo H0 cs W .n gs)) (hdb : (x == ("__debug__" : Str)) = false)
    (hst : notStar a = true) (hp : allPlain es = true) (hnp : es.length + 1 = np) (hlen : ∀ en b d b', gs en b = .ok d b' → (argsOf d).length = es.length) :
    Snd X bo H0 cs W ov false (.Call (.Name x p) (a :: es) [] pos) fun e b => (ga e b).bind fun d b1 => match boxOf d with
      | none => .no
      | some bx => (gs e b1).bind fun ds b2 => match g (argsOf ds) bx with
        | .ok d _ => .ok d b2
        | .ex c d _ => .ex c d b2
        | .no => .no := by
  obtain ⟨fa, fd, ps, k, hm, hk, F, hb, hr⟩ := F
  refine Snd.of_n (PE.imp (pe_callS F hr hg hm hk hb (fun σ => passAt tk σ) (pa_cons (ha.f rfl) hs (starEach_of hst)) hdb (starEach_of hst) (noStars hp)) fun σ H Q ⟨en, b, F, p, h⟩ => ⟨en, b, F, p, ?_⟩) rfl
  dsimp only at h
  cases qa : ga en b with
  | no =>
    rw [qa] at h
    exact h
  | ex c d b1 =>
    rw [qa] at h
    exact h
  | ok d b1 =>
    rw [qa] at h
    intro v F1 H1 x1 z1 r1
    have p1 := p.step x1 z1
    cases qb : boxOf d with
    | none =>
      rw [bindR_ok] at h
      rw [qb] at h
      exact h.elim
    | some bx =>
      rw [bindR_ok] at h
      rw [qb] at h
      have := boxOf_eq qb
      subst this
      obtain ⟨α, vs0, rfl, nα, bα, fα, hα, rα⟩ := r1
      have hvs : vs0 = [.int bx.1, .int bx.2.1, .int bx.2.2] := rpA_ints rα (ns := [bx.1, bx.2.1, bx.2.2]) rfl
      subst hvs
      refine ⟨en, b1, F1, p1, ?_⟩
      have hl := hlen en b1
      cases q : gs en b1 with
      | no =>
        dsimp only at h
        rw [q] at h
        exact h.elim
      | ex c d b2 =>
        dsimp only at h
        rw [q] at h
        exact fun dd F' H' y q r => h dd F' H' (x1.trans y q) q r
      | ok ds b2 =>
        dsimp only at h
        rw [q] at h
        intro vs F2 H2 x2 z2 r2
        have p2 := p1.step x2 z2
        have x12 := x1.trans x2 z2
        have ra := Paired.rpA r2
        have fα2 : F2 α = none := x2.un fα hα
        have hα2 : H2 α = _ := x2.keep _ _ nα hα
        refine ⟨by rw [List.length_cons, ra.length, hl ds b2 q, hnp], some α, F2, bx, vs, argsOf ds, fun _ => ⟨α, rfl, rfl⟩, (fun w => nomatch w), p2.sub, (fun β w => by cases w; exact ⟨fα2, hα2⟩), ra, ?_⟩
        rw [bindR_ok] at h
        have hne : ∀ β, bo = some β → β ≠ α := fun β e z => by
          subst z
          rw [(p.box _ e).2] at bα
          cases bα
        have up : ∀ {F' H' : Hp}, Ext (some α) F2 H2 F' H' → Ext bo F H F' H' ∧ BoxRep bo F' H' b2 := fun {F' H'} y => by
          refine ⟨⟨x12.sf.trans y.sf, y.sub, fun a o n w => ?_, fun a o w1 w2 => ?_⟩, fun β e => ?_⟩
          · refine y.keep a o (fun z => ?_) (x12.keep a o n w)
            cases z
            rw [bα] at w
            cases w
          · cases e1 : F2 a with
            | some u => exact x12.new a u w1 e1
            | none =>
              have n2 := y.new a o e1 w2
              cases e2 : H a with
              | none => rfl
              | some u =>
                by_cases z : some a = bo
                · rw [(z2 a z.symm).2] at n2
                  cases n2
                · rw [x12.keep a u z e2] at n2
                  cases n2
          · obtain ⟨u1, u2⟩ := z2 β e
            refine ⟨y.un u1 u2, y.keep _ _ (fun w => ?_) u2⟩
            cases w
            exact hne _ e rfl
        cases q2 : g (argsOf ds) bx with
        | no =>
          rw [q2] at h
          exact h.elim
        | ok d b =>
          rw [q2] at h
          exact fun v F' H' y _ r => h v F' H' (up y).1 (up y).2 r
        | ex c d b =>
          rw [q2] at h
          exact fun dd F' H' y _ r => h dd F' H' (up y).1 (up y).2 r
end
end Dv
/-! text D9 -/
set_option Elab.async false
set_option linter.all false
set_option maxRecDepth 100000
set_option maxHeartbeats 4000000
namespace Dv
open PySem PySem.Spec L2

/-! ### stores of values and of own lists -/
section
variable {bo : Option Addr} {H0 : Hp} {F H : Hp} {σ : L2.St} {e : Env}
theorem set_get {e : Env} {i j : Nat} {x s : Sl} (h : (e.set i x)[j]? = some s) : (i = j ∧ s = x) ∨ (i ≠ j ∧ e[j]? = some s) := by
  by_cases hij : i = j
  · subst hij
    by_cases hl : i < e.length
    · rw [List.getElem?_set_self hl] at h
      exact .inl ⟨rfl, (Option.some.inj h).symm⟩
    · rw [List.getElem?_eq_none (by rw [List.length_set]; omega)] at h
      cases h
  · rw [List.getElem?_set_ne hij] at h
    exact .inr ⟨hij, h⟩
theorem EnvRep.set_o (p : EnvRep bo H0 F H σ e) {i : Nat} {a : Addr} {d : P} (r : Ow bo H0 F H a d) (ne : ∀ (j : Nat) (dj : P), e[j]? = some (Sl.o dj) → σ[j]? ≠ some (some (V.ref a))) : EnvRep bo H0 F H (σ.set i (some (.ref a))) (e.set i (.o d)) := by
  refine ⟨by rw [List.length_set, List.length_set]; exact p.len, fun j s h => ?_, fun j k c dj dk hjk h1 h2 h3 h4 => ?_⟩
  · have hl : j < σ.length := by
      have := (List.getElem?_eq_some_iff.mp h).1
      rw [List.length_set, p.len] at this
      exact this
    rw [getD_set]
    rcases set_get h with ⟨rfl, rfl⟩ | ⟨hij, h⟩
    · rw [if_pos ⟨rfl, hl⟩]
      exact ⟨a, rfl, r⟩
    · rw [if_neg (fun z => hij z.1)]
      exact p.sl j s h
  · rcases set_get h1 with ⟨e1, q1⟩ | ⟨hij, h1⟩
    · rcases set_get h2 with ⟨e2, _⟩ | ⟨hik, h2⟩
      · exact hjk (e1.symm.trans e2)
      · rw [List.getElem?_set_ne hik] at h4
        subst e1
        rw [List.getElem?_set] at h3
        rw [if_pos rfl] at h3
        split at h3
        · cases h3
          exact ne k dk h2 h4
        · cases h3
    · rcases set_get h2 with ⟨e2, _⟩ | ⟨hik, h2⟩
      · rw [List.getElem?_set_ne hij] at h3
        subst e2
        rw [List.getElem?_set] at h4
        rw [if_pos rfl] at h4
        split at h4
        · cases h4
          exact ne j dj h1 h3
        · cases h4
      · rw [List.getElem?_set_ne hij] at h3
        rw [List.getElem?_set_ne hik] at h4
        exact p.ap j k c dj dk hjk h1 h2 h3 h4
/-- the own lists stand in B -/
def Al (B : Hp) (σ : L2.St) (e : Env) : Prop := ∀ (j : Nat) (a : Addr) (d : P), e[j]? = some (.o d) → σ[j]? = some (some (.ref a)) → B a ≠ none
theorem Pre.al' {b : Bx} (p : Pre bo H0 σ H e b F) : Al H σ e := fun j a d h1 h2 h3 => by
  obtain ⟨c, e1, r⟩ := p.env.sl j _ h1
  rw [h2] at e1
  cases e1
  cases d with
  | list ds =>
    obtain ⟨_, _, _, vs, h, _⟩ := r
    rw [h] at h3
    cases h3
  | _ => exact r.elim
theorem mkSl_false {d : P} : mkSl false d = .v d := rfl
theorem Pre.set_R {B : Hp} {b : Bx} {ow : Bool} {i : Nat} {v : V} {d : P} (p : Pre bo H0 σ H e b F) (al : Al B σ e) (h0B : ∀ a, H0 a ≠ none → B a ≠ none) (r : lR ow bo B F H v d) (h0 : bo ≠ none → i ≠ 0) :
    Pre bo H0 (σ.set i (some v)) H (e.set i (mkSl ow d)) b F := by
  cases ow with
  | false => exact p.set_v r h0
  | true =>
    have r : FrR bo B F H v d := r
    cases d with
    | list ds =>
      obtain ⟨a, vs, rfl, n, hb, hf, hh, ra⟩ := r
      refine ⟨p.sub, p.env.set_o (d := .list ds) ⟨n, ?_, hf, vs, hh, ra⟩ (fun j dj h1 h2 => al j a dj h1 h2 hb), p.box, fun β hb => by rw [List.getElem?_set_ne (h0 (by rw [hb]; exact (fun z => nomatch z)))]; exact p.bs β hb, p.al⟩
      cases q : H0 a with
      | none => rfl
      | some u => exact absurd hb (h0B a (by rw [q]; exact (fun z => nomatch z)))
    | none => exact p.set_v r h0
    | bool b => exact p.set_v r h0
    | int i => exact p.set_v r h0
    | str z => exact p.set_v r h0
    | tuple ds => exact p.set_v r h0
    | dict ds => exact p.set_v r h0
/-- an own list rewritten -/
theorem Pre.set_w {F0 : Hp} {b : Bx} {i : Nat} {a : Addr} {d : P} {ws : List V} {es : List P} (p : Pre bo H0 σ H e b F) (x : Ext bo F0 H0 F H) (hg : e[i]? = some (.o d)) (hs : σ[i]? = some (some (.ref a))) (r : RpA F ws es) :
    Pre bo H0 σ (upd H a (.lst ws)) (e.set i (.o (.list es))) b F ∧ Ext bo F0 H0 F (upd H a (.lst ws)) := by
  obtain ⟨c, e1, o⟩ := p.env.sl i _ hg
  rw [hs] at e1
  cases e1
  cases d with
  | list ds =>
    obtain ⟨n, h0, hf, vs, hh, ra⟩ := o
    have sub : Same F (upd H a (.lst ws)) := fun c u hc => by
      rw [upd_ne (ne_of_none hc hf)]
      exact p.sub _ _ hc
    refine ⟨⟨sub, ⟨by rw [List.length_set]; exact p.env.len, fun j s h => ?_, fun j k c dj dk hjk h1 h2 => ?_⟩, fun β hb => ?_, p.bs, fun c hc => ?_⟩, ⟨x.sf, sub, fun c u n2 hc => ?_, x.new⟩⟩
    · rcases set_get h with ⟨rfl, rfl⟩ | ⟨hij, h⟩
      · rw [hs]
        exact ⟨a, rfl, n, h0, hf, ws, upd_same, r⟩
      · have q := p.env.sl j s h
        cases s with
        | no => trivial
        | v d => exact q
        | o d =>
          obtain ⟨c, e1, o⟩ := q
          refine ⟨c, e1, ?_⟩
          have hc : c ≠ a := fun z => by
            subst z
            have hsj : σ[j]? = some (some (.ref c)) := by
              cases w : σ[j]? with
              | none => rw [w] at e1; cases e1
              | some u => rw [w] at e1; exact congrArg some e1
            exact p.env.ap i j c _ _ hij hg h hs hsj
          cases d with
          | list ds' =>
            obtain ⟨n', h0', hf', vs', hh', ra'⟩ := o
            exact ⟨n', h0', hf', vs', by rw [upd_ne hc]; exact hh', ra'⟩
          | _ => exact o.elim
    · have w1 : ∃ dj', e[j]? = some (.o dj') := by
        rcases set_get h1 with ⟨rfl, _⟩ | ⟨_, h1⟩
        · exact ⟨_, hg⟩
        · exact ⟨_, h1⟩
      have w2 : ∃ dk', e[k]? = some (.o dk') := by
        rcases set_get h2 with ⟨rfl, _⟩ | ⟨_, h2⟩
        · exact ⟨_, hg⟩
        · exact ⟨_, h2⟩
      obtain ⟨_, w1⟩ := w1
      obtain ⟨_, w2⟩ := w2
      exact p.env.ap j k c _ _ hjk w1 w2
    · obtain ⟨q1, q2⟩ := p.box β hb
      refine ⟨q1, ?_⟩
      rw [upd_ne (fun z => n (by rw [← z]; exact hb.symm))]
      exact q2
    · by_cases z : c = a
      · rw [z, upd_same]
        exact (fun z => nomatch z)
      · rw [upd_ne z]
        exact p.al c hc
    · have z : c ≠ a := fun z => by
        rw [z, h0] at hc
        cases hc
      rw [upd_ne z]
      exact x.keep c u n2 hc
  | _ => exact o.elim
theorem getO_get {i : Nat} {d : P} (h : getO e i = some d) : e[i]? = some (.o d) := by
  unfold getO at h
  split at h
  · rename_i d' q
    rw [q]
    cases h
    rfl
  · cases h
/-- own lists are frozen -/
theorem Pre.frz1 {F0 : Hp} {b : Bx} {i : Nat} (p : Pre bo H0 σ H e b F) (x : Ext bo F0 H0 F H) : ∃ F', Pre bo H0 σ H (freeze e [i]) b F' ∧ Ext bo F0 H0 F' H ∧ Same F F' ∧ ∀ a o, F' a = some o → F a = none → (∃ vs, o = HO.lst vs) ∧ ∃ (j : Nat) (d : P), e[j]? = some (Sl.o d) ∧ σ[j]? = some (some (V.ref a)) := by
  show ∃ F', Pre bo H0 σ H (match getO e i with | some d => e.set i (.v d) | none => e) b F' ∧ _
  cases q : getO e i with
  | none => exact ⟨F, p, x, Same.refl _, fun a o h1 h2 => by rw [h1] at h2; cases h2⟩
  | some d =>
    have hg := getO_get q
    obtain ⟨a, e1, o⟩ := p.env.sl i _ hg
    have hs : σ[i]? = some (some (.ref a)) := by
      cases w : σ[i]? with
      | none => rw [w] at e1; cases e1
      | some u => rw [w] at e1; exact congrArg some e1
    cases d with
    | list ds =>
      obtain ⟨n, h0, hf, vs, hh, ra⟩ := o
      have s : Same F (upd F a (.lst vs)) := fun c u hc => by
        rw [upd_ne (ne_of_none hc hf)]
        exact hc
      have sub : Same (upd F a (.lst vs)) H := fun c u hc => by
        by_cases z : c = a
        · rw [z, upd_same] at hc
          cases hc
          rw [z]
          exact hh
        · rw [upd_ne z] at hc
          exact p.sub _ _ hc
      have hr : Rp (upd F a (.lst vs)) (.ref a) (.list ds) := .lst upd_same (ra.mono s)
      refine ⟨upd F a (.lst vs), ⟨sub, ⟨by rw [List.length_set]; exact p.env.len, fun j s' h => ?_, fun j k c dj dk hjk h1 h2 => ?_⟩, fun β hb => ?_, p.bs, p.al⟩, ⟨x.sf.trans s, sub, x.keep, fun c u h1 h2 => ?_⟩, s, fun c u h1 h2 => ?_⟩
      · rcases set_get h with ⟨rfl, rfl⟩ | ⟨hij, h⟩
        · rw [hs]
          exact ⟨_, rfl, hr⟩
        · have w := p.env.sl j s' h
          cases s' with
          | no => trivial
          | v d =>
            obtain ⟨u, e2, r⟩ := w
            exact ⟨u, e2, r.mono s⟩
          | o d =>
            obtain ⟨c, e2, o⟩ := w
            have hc : c ≠ a := fun z => by
              subst z
              have hsj : σ[j]? = some (some (.ref c)) := by
                cases w : σ[j]? with
                | none => rw [w] at e2; cases e2
                | some u => rw [w] at e2; exact congrArg some e2
              exact p.env.ap i j c _ _ hij hg h hs hsj
            refine ⟨c, e2, ?_⟩
            cases d with
            | list ds' =>
              obtain ⟨n', h0', hf', vs', hh', ra'⟩ := o
              exact ⟨n', h0', by rw [upd_ne hc]; exact hf', vs', hh', ra'.mono s⟩
            | _ => exact o.elim
      · rcases set_get h1 with ⟨_, q1⟩ | ⟨_, h1⟩
        · cases q1
        · rcases set_get h2 with ⟨_, q2⟩ | ⟨_, h2⟩
          · cases q2
          · exact p.env.ap j k c _ _ hjk h1 h2
      · obtain ⟨q1, q2⟩ := p.box β hb
        refine ⟨?_, q2⟩
        rw [upd_ne (fun z => n (by rw [← z]; exact hb.symm))]
        exact q1
      · by_cases z : c = a
        · rw [z]
          exact h0
        · rw [upd_ne z] at h2
          exact x.new _ _ h1 h2
      · by_cases z : c = a
        · rw [z, upd_same] at h1
          cases h1
          exact ⟨⟨vs, rfl⟩, i, _, hg, by rw [z]; exact hs⟩
        · rw [upd_ne z, h2] at h1
          cases h1
    | _ => exact o.elim
end

/-! ### statements -/
section
variable {X : Cx} {bo : Option Addr} {F0 H0 : Hp} {cs : Cls'} {W : WX} {fr : Bool}
def finS (bo : Option Addr) (F0 H0 : Hp) (cs : Cls') (W : WX) (fr : Bool) (D : Ends) (Fs : Hp) (o : Out) : Prop :=
  match o with
  | .nx e b => ∀ σ F H, Pre bo H0 σ H e b F → Ext bo F0 H0 F H → Same Fs F → D.nx σ H
  | .rt d b => ∀ v F H, Ext bo F0 H0 F H → BoxRep bo F H b → lR fr bo H0 F H v d → D.rt v H
  | .xx e c d b => ∀ σ dd F H, Pre bo H0 σ H e b F → Ext bo F0 H0 F H → ExcRep cs F H dd c d → W (.ref (cs.ad c)) dd σ H
  | .no => False
def liftS (bo : Option Addr) (F0 H0 : Hp) (cs : Cls') (W : WX) (fr : Bool) (g : Env → Bx → Out) : TS := fun D σ H => ∃ e b F, Pre bo H0 σ H e b F ∧ Ext bo F0 H0 F H ∧ finS bo F0 H0 cs W fr D F (g e b)
theorem finS_up {D : Ends} {F F1 : Hp} {o : Out} (s : Same F F1) (h : finS bo F0 H0 cs W fr D F o) : finS bo F0 H0 cs W fr D F1 o := by
  cases o with
  | nx e b => exact fun σ F' H p x z => h σ F' H p x (s.trans z)
  | rt d b => exact h
  | xx e c d b => exact h
  | no => exact h
/-- an expression within a statement -/
theorem fin_out {Rl : Hp → Hp → Hp → V → P → Prop} {r : R P} {k : P → Bx → Out} {σ : L2.St} {H F : Hp} {e : Env} {b : Bx} {D : Ends} {Q : VK} (p : Pre bo H0 σ H e b F) (x0 : Ext bo F0 H0 F H) (h : finS bo F0 H0 cs W fr D F (r.out e k))
    (hk : ∀ d b1 v F1 H1, Pre bo H0 σ H1 e b1 F1 → Ext bo F H F1 H1 → Ext bo F0 H0 F1 H1 → Rl H F1 H1 v d → finS bo F0 H0 cs W fr D F1 (k d b1) → Q v H1) : fin bo cs W Rl σ F H r Q := by
  cases r with
  | ok d b1 => exact fun v F1 H1 x z r => hk d b1 v F1 H1 (p.step x z) x (x0.trans x z) r (finS_up x.sf h)
  | ex c d b1 => exact fun dd F1 H1 x z r => h σ dd F1 H1 (p.step x z) (x0.trans x z) r
  | no => exact h.elim
theorem finT_out {r : R Bool} {k : Bool → Bx → Out} {σ : L2.St} {H F : Hp} {e : Env} {b : Bx} {D : Ends} {Q : Bool → Hp → Prop} (p : Pre bo H0 σ H e b F) (x0 : Ext bo F0 H0 F H) (h : finS bo F0 H0 cs W fr D F (r.out e k))
    (hk : ∀ d b1 F1 H1, Pre bo H0 σ H1 e b1 F1 → Ext bo F0 H0 F1 H1 → Same F F1 → finS bo F0 H0 cs W fr D F1 (k d b1) → Q d H1) : finT bo cs W σ F H r Q := by
  cases r with
  | ok d b1 => exact fun F1 H1 x z => hk d b1 F1 H1 (p.step x z) (x0.trans x z) x.sf (finS_up x.sf h)
  | ex c d b1 => exact fun dd F1 H1 x z r => h σ dd F1 H1 (p.step x z) (x0.trans x z) r
  | no => exact h.elim
theorem sS_nil : PSs X [] (liftS bo F0 H0 cs W fr fun e b => .nx e b) := PSs.imp pss_nil fun D σ H ⟨e, b, F, p, x, h⟩ => h σ F H p x (Same.refl _)
theorem sS_cons {st : Stmt} {rest : List Stmt} {g1 g2 : Env → Bx → Out} (h1 : PS X st (liftS bo F0 H0 cs W fr g1)) (h2 : PSs X rest (liftS bo F0 H0 cs W fr g2)) : PSs X (st :: rest) (liftS bo F0 H0 cs W fr fun e b => (g1 e b).bind g2) :=
  PSs.imp (pss_cons h1 h2) fun D σ H ⟨e, b, F, p, x, h⟩ => by
    refine ⟨e, b, F, p, x, ?_⟩
    dsimp only at h
    cases q : g1 e b with
    | nx e1 b1 =>
      rw [q] at h
      exact fun σ' F' H' p' x' s' => ⟨e1, b1, F', p', x', finS_up s' h⟩
    | rt d b1 => rw [q] at h; exact h
    | xx e1 c d b1 => rw [q] at h; exact h
    | no => rw [q] at h; exact h
theorem sS_one {st : Stmt} {g1 : Env → Bx → Out} (h1 : PS X st (liftS bo F0 H0 cs W fr g1)) : PSs X [st] (liftS bo F0 H0 cs W fr g1) := pss_one h1
theorem sS_frz {sts : List Stmt} {i : Nat} {g : Env → Bx → Out} (h2 : PSs X sts (liftS bo F0 H0 cs W fr g)) : PSs X sts (liftS bo F0 H0 cs W fr fun e b => (Out.nx (freeze e [i]) b).bind g) :=
  PSs.imp h2 fun D σ H ⟨e, b, F, p, x, h⟩ => by
    obtain ⟨F', p', x', s', _⟩ := p.frz1 (i := i) x
    exact ⟨_, b, F', p', x', finS_up s' h⟩
theorem Snd.lR {ov fe ow : Bool} {e : Expr} {g : Env → Bx → R P} (h : Snd X bo H0 cs W ov fe e g) (h1 : ow = true → fe = true) (h2 : ow = false → ov = false) : PE X e (lift bo H0 cs W (lR ow bo) g) := by
  cases ow with
  | false => exact h.n (h2 rfl)
  | true => exact h.f (h1 rfl)
theorem Pre.h0 {σ : L2.St} {H F : Hp} {e : Env} {b : Bx} (p : Pre bo H0 σ H e b F) : ∀ a, H0 a ≠ none → H a ≠ none := p.al
theorem setA {i : Nat} {ow : Bool} {te : TE} {g : Env → Bx → R P} {st : Stmt} (hA : PS X st (tAsg te (gName i))) (hi : ∀ σ H Q, lift bo H0 cs W (lR ow bo) g σ H Q → te σ H Q) (h0 : bo ≠ none → i ≠ 0) :
    PS X st (liftS bo F0 H0 cs W fr fun e b => (g e b).out e fun d b1 => .nx (e.set i (mkSl ow d)) b1) :=
  PS.imp hA fun D σ H ⟨e, b, F, p, x, h⟩ => hi _ _ _ ⟨e, b, F, p, fin_out p x h fun d b1 v F1 H1 p1 x1 x01 r h1 => h1 _ F1 H1 (p1.set_R p.al' p.al r h0) x01 (Same.refl _)⟩
theorem sS_set {i : Nat} {x : Str} {e : Expr} {ov fe ow : Bool} {g : Env → Bx → R P} {pos pos' : Pos} (hN : X.N.Nodup) (hi : X.N[i]? = some x) (hx : X.env.scope.names.lookup x = some .local) (he : Snd X bo H0 cs W ov fe e g) (h1 : ow = true → fe = true) (h2 : ow = false → ov = false)
    (hs : swapsWith e (some (.Name x pos')) pos.line X.env = pure false) (h0 : bo ≠ none → i ≠ 0) : PS X (.Assign [.Name x pos'] e pos) (liftS bo F0 H0 cs W fr fun e b => (g e b).out e fun d b1 => .nx (e.set i (mkSl ow d)) b1) :=
  setA (ps_set hN hi (.inl hx) (he.lR h1 h2) hs (.inr hx)) (fun _ _ _ h => h) h0
theorem sS_sett {tg e : Expr} {tgD : Tg} {fe : Bool} {g : Env → Bx → R P} {pos : Pos} (he : Snd X bo H0 cs W false fe e g) (hg : PG X tg (liftG bo H0 tgD)) (hs : swapsWithSole [tg] e pos.line X.env = pure false) (hw : swappedStores [tg] e X.env = pure none) (h1 : notStar tg = true) :
    PS X (.Assign [tg] e pos) (liftS bo F0 H0 cs W fr fun e b => (g e b).out e fun d b1 => Out.ofO (asgn tgD d e) b1) :=
  PS.imp (ps_asg (he.n rfl) hg hs hw (by rw [assignEach_of h1] <;> rfl)) fun D σ H ⟨e, b, F, p, x, h⟩ => ⟨e, b, F, p, fin_out p x h fun d b1 v F1 H1 p1 x1 x01 r h1 => by
    cases q : asgn tgD d e with
    | none =>
      rw [q] at h1
      exact h1.elim
    | some e' =>
      rw [q] at h1
      exact ⟨e, b1, F1, d, e', p1, r, q, fun σ' p' _ _ => h1 σ' F1 H1 p' x01 (Same.refl _)⟩⟩
theorem sS_drop {e : Expr} {ov fe : Bool} {g : Env → Bx → R P} {pos : Pos} (he : Snd X bo H0 cs W ov fe e g) (hs : swapsWith e none pos.line X.env = pure false) : PS X (.Expr e pos) (liftS bo F0 H0 cs W fr fun e b => (g e b).out e fun _ b1 => .nx e b1) :=
  PS.imp (ps_expr he.r hs) fun D σ H ⟨e, b, F, p, x, h⟩ => ⟨e, b, F, p, fin_out p x h fun d b1 v F1 H1 p1 x1 x01 r h1 => h1 σ F1 H1 p1 x01 (Same.refl _)⟩
theorem sS_pass {pos : Pos} : PS X (.Pass pos) (liftS bo F0 H0 cs W fr fun e b => .nx e b) := PS.imp ps_pass fun D σ H ⟨e, b, F, p, x, h⟩ => h σ F H p x (Same.refl _)
/-! two and three at once -/
theorem sS_par2 {i j : Nat} {x y : Str} {a b : Expr} {px py pt pos : Pos} {kt k2 pt2} {v1 f1 o1 v2 f2 o2 : Bool} {ga gb : Env → Bx → R P} (hc : X.calm = true) (hN : X.N.Nodup) (hi : X.N[i]? = some x) (hj : X.N[j]? = some y) (hij : i ≠ j)
    (hx : X.env.scope.names.lookup x = some .local) (hy : X.env.scope.names.lookup y = some .local) (ha : Snd X bo H0 cs W v1 f1 a ga) (hb : Snd X bo H0 cs W v2 f2 b gb) (a1 : o1 = true → f1 = true) (a2 : o1 = false → v1 = false) (b1 : o2 = true → f2 = true) (b2 : o2 = false → v2 = false)
    (sa : notStar a = true) (sb : notStar b = true) (hw : swappedStores [.Tuple [.Name x px, .Name y py] kt pt] (.Tuple [a, b] k2 pt2) X.env = pure (some [x, y])) (h0 : bo ≠ none → i ≠ 0 ∧ j ≠ 0) :
    PS X (.Assign [.Tuple [.Name x px, .Name y py] kt pt] (.Tuple [a, b] k2 pt2) pos) (liftS bo F0 H0 cs W fr fun e bx => (ga e bx).out e fun d b1 => (gb e b1).out e fun d2 b2 => .nx ((e.set i (mkSl o1 d)).set j (mkSl o2 d2)) b2) :=
  PS.imp (ps_par hc hN hi hj hij hx hy (pa_cons (ha.lR a1 a2) (pa_cons (hb.lR b1 b2) pa_nil (starEach_of sb)) (starEach_of sa)) hw rfl) fun D σ H ⟨e, bx, F, p, x, h⟩ =>
    ⟨e, bx, F, p, fin_out p x h fun d b1 v F1 H1 p1 x1 x01 r1 h1 => ⟨e, b1, F1, p1, fin_out p1 x01 h1 fun d2 b2 w F2 H2 p2 x2 x02 r2 h2 => ⟨v, w, rfl, h2 _ F2 H2 (by
      have q1 : Pre bo H0 (σ.set i (some v)) H1 (e.set i (mkSl o1 d)) b1 F1 := p1.set_R p.al' p.al r1 fun z => (h0 z).1
      exact (q1.step x2 p2.box).set_R q1.al' q1.al r2 fun z => (h0 z).2) x02 (Same.refl _)⟩⟩⟩
theorem sS_par3 {i j l : Nat} {x y z : Str} {a b c : Expr} {px py pz pt pos : Pos} {kt k2 pt2} {v1 f1 o1 v2 f2 o2 v3 f3 o3 : Bool} {ga gb gc : Env → Bx → R P} (hc : X.calm = true) (hN : X.N.Nodup) (hi : X.N[i]? = some x) (hj : X.N[j]? = some y) (hl : X.N[l]? = some z) (hij : i ≠ j) (hil : i ≠ l) (hjl : j ≠ l)
    (hx : X.env.scope.names.lookup x = some .local) (hy : X.env.scope.names.lookup y = some .local) (hz : X.env.scope.names.lookup z = some .local) (ha : Snd X bo H0 cs W v1 f1 a ga) (hb : Snd X bo H0 cs W v2 f2 b gb) (hcc : Snd X bo H0 cs W v3 f3 c gc)
    (a1 : o1 = true → f1 = true) (a2 : o1 = false → v1 = false) (b1 : o2 = true → f2 = true) (b2 : o2 = false → v2 = false) (c1 : o3 = true → f3 = true) (c2 : o3 = false → v3 = false)
    (sa : notStar a = true) (sb : notStar b = true) (sc : notStar c = true) (hw : swappedStores [.Tuple [.Name x px, .Name y py, .Name z pz] kt pt] (.Tuple [a, b, c] k2 pt2) X.env = pure (some [x, y, z])) (h0 : bo ≠ none → i ≠ 0 ∧ j ≠ 0 ∧ l ≠ 0) :
    PS X (.Assign [.Tuple [.Name x px, .Name y py, .Name z pz] kt pt] (.Tuple [a, b, c] k2 pt2) pos) (liftS bo F0 H0 cs W fr fun e bx => (ga e bx).out e fun d b1 => (gb e b1).out e fun d2 b2 => (gc e b2).out e fun d3 b3 => .nx (((e.set i (mkSl o1 d)).set j (mkSl o2 d2)).set l (mkSl o3 d3)) b3) :=
  PS.imp (ps_par3 hc hN hi hj hl hij hil hjl hx hy hz (pa_cons (ha.lR a1 a2) (pa_cons (hb.lR b1 b2) (pa_cons (hcc.lR c1 c2) pa_nil (starEach_of sc)) (starEach_of sb)) (starEach_of sa)) hw rfl) fun D σ H ⟨e, bx, F, p, x, h⟩ =>
    ⟨e, bx, F, p, fin_out p x h fun d b1 v F1 H1 p1 x1 x01 r1 h1 => ⟨e, b1, F1, p1, fin_out p1 x01 h1 fun d2 b2 w F2 H2 p2 x2 x02 r2 h2 => ⟨e, b2, F2, p2, fin_out p2 x02 h2 fun d3 b3 u F3 H3 p3 x3 x03 r3 h3 => ⟨v, w, u, rfl, h3 _ F3 H3 (by
      have q1 : Pre bo H0 (σ.set i (some v)) H1 (e.set i (mkSl o1 d)) b1 F1 := p1.set_R p.al' p.al r1 fun z => (h0 z).1
      have q2 : Pre bo H0 ((σ.set i (some v)).set j (some w)) H2 ((e.set i (mkSl o1 d)).set j (mkSl o2 d2)) b2 F2 := (q1.step x2 p2.box).set_R q1.al' q1.al r2 fun z => (h0 z).2.1
      exact (q2.step x3 p3.box).set_R q2.al' q2.al r3 fun z => (h0 z).2.2) x03 (Same.refl _)⟩⟩⟩⟩
/-! an own list grows, an item is put -/
theorem own_var {σ : L2.St} {H F : Hp} {e : Env} {b : Bx} (p : Pre bo H0 σ H e b F) {i : Nat} {d : P} (h : getO e i = some d) : ∃ a ds vs, d = .list ds ∧ e[i]? = some (.o (.list ds)) ∧ σ[i]? = some (some (.ref a)) ∧ H a = some (.lst vs) ∧ RpA F vs ds := by
  obtain ⟨a, e1, o⟩ := own_get p.env h
  cases d with
  | list ds =>
    obtain ⟨_, _, _, vs, hh, ra⟩ := o
    exact ⟨a, ds, vs, rfl, getO_get h, e1, hh, ra⟩
  | _ => exact o.elim
/-- the names of slots -/
structure NmOk (X : Cx) (i : Nat) (x : Str) : Prop where
  hN : X.N[i]? = some x
  hv : Vis X.env.scope x
  hd : (x == ("__debug__" : Str)) = false
  hcd : (x == ("__classdict__" : Str)) = false
theorem sS_app {i : Nat} {x : Str} {e : Expr} {fe : Bool} {g : Env → Bx → R P} {px pa pc pos : Pos} (n : NmOk X i x) (he : Snd X bo H0 cs W false fe e g) (hst : notStar e = true) (hl : (pa.endLine == pc.line) = true) :
    PS X (.Expr (.Call (.Attribute (.Name x px) "append" pa) [e] [] pc) pos) (liftS bo F0 H0 cs W fr fun en b => match getO en i with
      | some (.list xs) => (g en b).out en fun d b1 => if xs.length < line then .nx (en.set i (.o (.list (xs ++ [d])))) b1 else .no
      | _ => .no) :=
  PS.imp (ps_expr (pe_bm PySem.F.plainAttrs_list PySem.F.slot_list_append PySem.F.type_list_append mt_append (pe_var n.hN n.hv n.hd n.hcd) (pa_cons (he.n rfl) pa_nil (starEach_of hst)) (by rfl) (by rw [starEach_of hst] <;> rfl) hl (starEach_of hst) (by rfl)) (by rfl)) fun D σ H ⟨en, b, F, p, x, h⟩ => by
    dsimp only at h
    split at h
    · rename_i xs qo
      obtain ⟨a, ds, vs, e1, hg, hs, hh, ra⟩ := own_var p qo
      cases e1
      refine ⟨.ref a, hs, .inl ⟨rfl, vs, SqL.of hh⟩, en, b, F, p, fin_out p x h fun d b1 v F1 H1 p1 x1 x01 r h1 => ?_⟩
      split at h1
      · rename_i hlt
        obtain ⟨a', ds', vs', e', hg', hs', hh', ra'⟩ := own_var p1 qo
        cases e'
        rw [hs] at hs'
        cases hs'
        obtain ⟨w1, w2⟩ := p1.set_w x01 hg hs (ra'.append (.cons r .nil))
        exact ⟨a, vs', v, rfl, rfl, hh', by rw [ra'.length, ← line_eq]; exact hlt, h1 _ _ _ w1 w2 (Same.refl _)⟩
      · exact h1.elim
    · exact h.elim
theorem sS_ext {i : Nat} {x : Str} {e : Expr} {ov fe : Bool} {g : Env → Bx → R P} {px pa pc pos : Pos} (n : NmOk X i x) (he : Snd X bo H0 cs W ov fe e g) (hst : notStar e = true) (hl : (pa.endLine == pc.line) = true) :
    PS X (.Expr (.Call (.Attribute (.Name x px) "extend" pa) [e] [] pc) pos) (liftS bo F0 H0 cs W fr fun en b => match getO en i with
      | some (.list xs) => (g en b).out en fun d b1 => match d with
        | .list ys => if xs.length + ys.length ≤ line then .nx (en.set i (.o (.list (xs ++ ys)))) b1 else .no
        | _ => .no
      | _ => .no) :=
  PS.imp (ps_expr (pe_bm PySem.F.plainAttrs_list PySem.F.slot_list_extend PySem.F.type_list_extend mt_extend (pe_var n.hN n.hv n.hd n.hcd) (pa_cons he.r pa_nil (starEach_of hst)) (by rfl) (by rw [starEach_of hst] <;> rfl) hl (starEach_of hst) (by rfl)) (by rfl)) fun D σ H ⟨en, b, F, p, x, h⟩ => by
    dsimp only at h
    split at h
    · rename_i xs qo
      obtain ⟨a, ds, vs, e1, hg, hs, hh, ra⟩ := own_var p qo
      cases e1
      refine ⟨.ref a, hs, .inl ⟨rfl, vs, SqL.of hh⟩, en, b, F, p, fin_out p x h fun d b1 v F1 H1 p1 x1 x01 r h1 => ?_⟩
      split at h1
      · split at h1
        · rename_i ys hlt
          obtain ⟨a', ds', vs', e', hg', hs', hh', ra'⟩ := own_var p1 qo
          cases e'
          rw [hs] at hs'
          cases hs'
          obtain ⟨c, ws, rfl, _, hc, rc⟩ := (show RpR bo F1 H1 v (.list ys) from r)
          obtain ⟨w1, w2⟩ := p1.set_w x01 hg hs (ra'.append rc)
          exact ⟨a, c, vs', ws, rfl, rfl, hh', hc, by rw [ra'.length, rc.length, ← line_eq]; exact hlt, h1 _ _ _ w1 w2 (Same.refl _)⟩
        · exact h1.elim
      · exact h1.elim
    · exact h.elim
theorem setAt_eq {xs : List P} {kd d o' : P} (h : setAt (.list xs) kd d = some o') : ∃ i j, kd = .int i ∧ L2.ixN xs.length i = some j ∧ o' = .list (xs.set j d) := by
  cases kd with
  | int i =>
    have h : (match L2.ixN xs.length i with | some j => some (PyData.list (xs.set j d)) | none => none) = some o' := h
    split at h
    · rename_i j q
      cases h
      exact ⟨i, j, rfl, q, rfl⟩
    · cases h
  | _ => cases h
def subArm (o i : Expr) (pos : Pos) (env : PySem.Env) : Prop := ∀ v, assign (.Subscript o i pos) env v = (do
      let ov ← holding [v] (eval o env)
      let iv ← holding [v, ov] (eval i env)
      standAt pos
      holding [v, ov, iv] (setItem ov iv v)
      release [v, ov, iv] [])
theorem subArm_of {o i : Expr} {pos : Pos} {env : PySem.Env} (h : notSlice i = true) : subArm o i pos env := by
  intro v
  cases i <;> first
    | rfl
    | cases h
theorem sS_stix {i : Nat} {x : Str} {e k : Expr} {ok fe fk : Bool} {g gk : Env → Bx → R P} {px pt pos : Pos} (n : NmOk X i x) (he : Snd X bo H0 cs W false fe e g) (hk : Snd X bo H0 cs W ok fk k gk) (hns : notSlice k = true)
    (hs : swapsWithSole [.Subscript (.Name x px) k pt] e pos.line X.env = pure false) (hw : swappedStores [.Subscript (.Name x px) k pt] e X.env = pure none) :
    PS X (.Assign [.Subscript (.Name x px) k pt] e pos) (liftS bo F0 H0 cs W fr fun en b => match getO en i with
      | some (.list xs) => (g en b).out en fun d b1 => (gk en b1).out en fun kd b2 => match setAt (.list xs) kd d with
        | some o' => .nx (en.set i (.o o')) b2
        | none => .no
      | _ => .no) :=
  PS.imp (ps_asg (he.n rfl) (pg_sub (pe_var n.hN n.hv n.hd n.hcd) hk.r set_list (subArm_of hns)) hs hw (by rfl)) fun D σ H ⟨en, b, F, p, x, h⟩ => by
    dsimp only at h
    split at h
    · rename_i xs qo
      obtain ⟨a, ds, vs, e1, hg, hsl, hh, ra⟩ := own_var p qo
      cases e1
      refine ⟨en, b, F, p, fin_out p x h fun d b1 v F1 H1 p1 x1 x01 r h1 => ⟨.ref a, hsl, en, b1, F1, p1, fin_out p1 x01 h1 fun kd b2 w F2 H2 p2 x2 x02 r2 h2 => ?_⟩⟩
      cases q : setAt (.list xs) kd d with
      | none =>
        rw [q] at h2
        exact h2.elim
      | some o' =>
        rw [q] at h2
        obtain ⟨ki, j, rfl, hj, rfl⟩ := setAt_eq q
        obtain ⟨a', ds', vs', e', hg', hs', hh', ra'⟩ := own_var p2 qo
        cases e'
        rw [hsl] at hs'
        cases hs'
        have r : Rp F1 v d := r
        obtain ⟨w1, w2⟩ := p2.set_w x02 hg hsl (ra'.set (r.mono x2.sf) j)
        exact ⟨a, vs', ki, j, rfl, RpR.int (bo := bo) (H := H2) r2, hh', by rw [ra'.length]; exact hj, h2 _ _ _ w1 w2 (Same.refl _)⟩
    · exact h.elim
/-! the source of draws -/
theorem bx_ix {β : Addr} {F H : Hp} {b : Bx} (q : BoxRep (some β) F H b) {K : PySem.W.Frag} {j : Nat} {i : Int} (h : bxAt j b = some i) : ∃ xs, SqL K H β xs ∧ L2.atI xs ((j : Nat) : Int) = some (V.int i) := by
  refine ⟨_, SqL.of (q β rfl).2, ?_⟩
  match j, h with
  | 0, h => cases h; rfl
  | 1, h => cases h; rfl
  | 2, h => cases h; rfl
theorem snd_bget {j : Nat} {x : Str} {ov fr : Bool} {px pt p2 : Pos} {k2 : Nat} (hb : bo ≠ none) (n : NmOk X 0 x) : Snd X bo H0 cs W ov fr (.Subscript (.Name x px) (.Constant (.int ((j : Nat) : Int)) k2 p2) pt) fun _ b => R.ofO ((bxAt j b).map .int) b :=
  Snd.of_f (PE.imp (pe_ix ix_list (pe_var n.hN n.hv n.hd n.hcd) pe_int fun _ _ => rfl) fun σ H Q ⟨en, b, F, p, h⟩ => by
    obtain ⟨β, hβ⟩ := Option.ne_none_iff_exists'.mp hb
    dsimp only at h
    cases q : bxAt j b with
    | none =>
      rw [q] at h
      exact h.elim
    | some i =>
      rw [q] at h
      have pb := p.box
      rw [hβ] at pb
      obtain ⟨xs, h1, h2⟩ := bx_ix (K := X.K) pb q
      exact ⟨.ref β, p.bs β hβ, β, xs, ((j : Nat) : Int), .int i, rfl, rfl, h1, h2, h _ F H (Ext.refl p.sub) p.box (Flt.int i).fr⟩) rfl
theorem bx_set {β : Addr} {F H : Hp} {b b2 : Bx} {j : Nat} {i : Int} (h : bxSet j i b = some b2) : L2.ixN ([V.int b.1, V.int b.2.1, V.int b.2.2] : List V).length ((j : Nat) : Int) = some j ∧ ([V.int b.1, V.int b.2.1, V.int b.2.2] : List V).set j (V.int i) = [V.int b2.1, V.int b2.2.1, V.int b2.2.2] := by
  match j, h with
  | 0, h => cases h; exact ⟨rfl, rfl⟩
  | 1, h => cases h; exact ⟨rfl, rfl⟩
  | 2, h => cases h; exact ⟨rfl, rfl⟩
theorem sS_bset {j : Nat} {x : Str} {e : Expr} {fe : Bool} {g : Env → Bx → R P} {px pt p2 pos : Pos} {k2 : Nat} (hb : bo ≠ none) (n : NmOk X 0 x) (he : Snd X bo H0 cs W false fe e g)
    (hs : swapsWithSole [.Subscript (.Name x px) (.Constant (.int ((j : Nat) : Int)) k2 p2) pt] e pos.line X.env = pure false) (hw : swappedStores [.Subscript (.Name x px) (.Constant (.int ((j : Nat) : Int)) k2 p2) pt] e X.env = pure none) :
    PS X (.Assign [.Subscript (.Name x px) (.Constant (.int ((j : Nat) : Int)) k2 p2) pt] e pos) (liftS bo F0 H0 cs W fr fun en b => (g en b).out en fun d b1 => match d with
      | .int n => match bxSet j n b1 with
        | some b2 => .nx en b2
        | none => .no
      | _ => .no) :=
  PS.imp (ps_asg (he.n rfl) (pg_sub (pe_var n.hN n.hv n.hd n.hcd) pe_int set_list (subArm_of rfl)) hs hw (by rfl)) fun D σ H ⟨en, b, F, p, x, h⟩ => by
    obtain ⟨β, hβ⟩ := Option.ne_none_iff_exists'.mp hb
    refine ⟨en, b, F, p, fin_out p x h fun d b1 v F1 H1 p1 x1 x01 r h1 => ?_⟩
    split at h1
    · rename_i i
      split at h1
      · rename_i b2 q
        have r : Rp F1 v (.int i) := r
        cases r
        obtain ⟨f1, f2⟩ := p1.box β hβ
        obtain ⟨w1, w2⟩ := bx_set (β := β) (F := F1) (H := H1) q
        have hx : Ext bo F1 H1 F1 (upd H1 β (.lst (([V.int b1.1, V.int b1.2.1, V.int b1.2.2] : List V).set j (V.int i)))) := by
          refine ⟨Same.refl _, fun a o ha => ?_, fun a o na ha => ?_, fun a o ha hb' => by rw [ha] at hb'; cases hb'⟩
          · rw [upd_ne (ne_of_none ha f1)]
            exact p1.sub _ _ ha
          · rw [upd_ne (fun z => na (by rw [z, hβ]))]
            exact ha
        have hq : BoxRep bo F1 (upd H1 β (.lst (([V.int b1.1, V.int b1.2.1, V.int b1.2.2] : List V).set j (V.int i)))) b2 := fun γ hγ => by
          rw [hβ] at hγ
          cases hγ
          refine ⟨f1, ?_⟩
          rw [upd_same, w2]
        exact ⟨.ref β, p1.bs β hβ, β, _, ((j : Nat) : Int), j, rfl, rfl, f2, w1, h1 _ _ _ (p1.step hx hq) (x01.trans hx hq) (Same.refl _)⟩
      · exact h1.elim
    · exact h1.elim
theorem sS_aug {i : Nat} {x : Str} {e : Expr} {op : Operator} {f : Int → Int → Int} {ov fe : Bool} {g : Env → Bx → R P} {px pos : Pos} (n : NmOk X i x) (hN : X.N.Nodup) (hx : X.env.scope.names.lookup x = some .local) (ho : PIp X op (ipI f)) (he : Snd X bo H0 cs W ov fe e g) (h0 : bo ≠ none → i ≠ 0) :
    PS X (.AugAssign (.Name x px) op e pos) (liftS bo F0 H0 cs W fr fun en b => match getV en i with
      | some (.int m) => (g en b).out en fun d b1 => match d with
        | .int k => .nx (en.set i (.v (.int (f m k)))) b1
        | _ => .no
      | _ => .no) :=
  PS.imp (ps_aug hN n.hN (.inl hx) he.r ho (.inr hx)) fun D σ H ⟨en, b, F, p, x, h⟩ => by
    dsimp only at h
    split at h
    · rename_i m qo
      obtain ⟨v, hs, r0⟩ := slot_get p.env qo
      cases r0
      refine ⟨.int m, hs, en, b, F, p, fin_out p x h fun d b1 w F1 H1 p1 x1 x01 r h1 => ?_⟩
      split at h1
      · rename_i k
        exact ⟨m, k, rfl, RpR.int (bo := bo) (H := H1) r, h1 _ F1 H1 (p1.set_v (.int _) h0) x01 (Same.refl _)⟩
      · exact h1.elim
    · exact h.elim
/-! tests, loops, ends -/
theorem sS_if {c : Expr} {as bs : List Stmt} {pos : Pos} {ov fe : Bool} {g : Env → Bx → R P} {ga gb : Env → Bx → Out} (hc : Snd X bo H0 cs W ov fe c g) (ha : PSs X as (liftS bo F0 H0 cs W fr ga)) (hb : PSs X bs (liftS bo F0 H0 cs W fr gb)) :
    PS X (.If c as bs pos) (liftS bo F0 H0 cs W fr fun e b => (gT g e b).out e fun t b1 => if t then ga e b1 else gb e b1) :=
  PS.imp (ps_if hc.t ha hb) fun D σ H ⟨e, b, F, p, x, h⟩ => ⟨e, b, F, p, finT_out p x h fun t b1 F1 H1 p1 x1 _ h1 => by
    cases t with
    | true => rw [if_pos rfl] at h1 ⊢; exact ⟨e, b1, F1, p1, x1, h1⟩
    | false => rw [if_neg Bool.false_ne_true] at h1 ⊢; exact ⟨e, b1, F1, p1, x1, h1⟩⟩
theorem sS_ret {e : Expr} {ov fe : Bool} {g : Env → Bx → R P} {pos : Pos} (he : Snd X bo H0 cs W ov fe e g) (h1 : fr = true → fe = true) (h2 : fr = false → ov = false) : PS X (.Return (some e) pos) (liftS bo F0 H0 cs W fr fun en b => (g en b).out en fun d b1 => .rt d b1) :=
  PS.imp (ps_ret (he.lR h1 h2)) fun D σ H ⟨en, b, F, p, x, h⟩ => ⟨en, b, F, p, fin_out p x h fun d b1 v F1 H1 p1 x1 x01 r h3 => h3 v F1 H1 x01 p1.box (hRR H0 H F1 H1 v d r fun a ha => by
    cases q : H0 a with
    | none => rfl
    | some u => exact absurd ha (p.al a (by rw [q]; exact (fun z => nomatch z))))⟩
/-- the def's own list is handed out -/
theorem sS_retO {i : Nat} {x : Str} {px pos : Pos} (n : NmOk X i x) (hf : fr = true) : PS X (.Return (some (.Name x px)) pos) (liftS bo F0 H0 cs W fr fun en b => (R.ofO (getO en i) b).out en fun d b1 => .rt d b1) :=
  PS.imp (ps_ret (pe_var n.hN n.hv n.hd n.hcd)) fun D σ H ⟨en, b, F, p, x, h⟩ => by
    dsimp only at h
    cases qo : getO en i with
    | none =>
      rw [qo] at h
      exact h.elim
    | some d =>
      rw [qo] at h
      obtain ⟨a, hs, o⟩ := own_get p.env qo
      refine ⟨.ref a, hs, h (.ref a) F H x p.box ?_⟩
      subst hf
      cases d with
      | list ds =>
        obtain ⟨n1, n2, n3, vs, hh, ra⟩ := o
        exact ⟨a, vs, rfl, n1, n2, n3, hh, ra⟩
      | _ => exact o.elim
theorem lR_non {F H : Hp} : lR fr bo H0 F H .non .none := by
  cases fr with
  | false => exact Rp.non
  | true => exact Rp.non
theorem sS_retN {pos : Pos} : PS X (.Return none pos) (liftS bo F0 H0 cs W fr fun _ b => .rt .none b) := PS.imp ps_retN fun D σ H ⟨en, b, F, p, x, h⟩ => h .non F H x p.box lR_non
theorem sS_for {tg iter : Expr} {body : List Stmt} {pos : Pos} {tgD : Tg} {git : Env → Bx → R P} {gb : Env → Bx → Out} (hp : PassesOwn (model X.prog X.w) X.A X.env X.xe) (hc : X.calm = true) (hi : PI X tg iter (liftI bo H0 cs W true git)) (hg : PG X tg (liftG bo H0 tgD)) (hb : PSs X body (liftS bo F0 H0 cs W fr gb))
    (hs : notSet iter = true) : PS X (.For tg iter body [] pos) (liftS bo F0 H0 cs W fr fun e b => (git e b).out e fun d b1 => match itemsD d with
      | none => .no
      | some xs => forL (fun x e b => match asgn tgD x e with
        | none => .no
        | some e' => gb e' b) xs e b1) :=
  PS.imp (ps_for hp hc hi hg hb (notSet_folded hs)) fun D σ H ⟨e, b, F, p, x, h⟩ => by
    refine ⟨e, b, F, p, ?_⟩
    dsimp only at h
    cases q : git e b with
    | no =>
      rw [q] at h
      exact h
    | ex c d b1 =>
      rw [q] at h
      exact fun dd F1 H1 x1 z r => h σ dd F1 H1 (p.step x1 z) (x.trans x1 z) r
    | ok d b1 =>
      rw [q] at h
      have h : finS bo F0 H0 cs W fr D F (match itemsD d with
        | none => .no
        | some xs => forL (fun x e b => match asgn tgD x e with
          | none => .no
          | some e' => gb e' b) xs e b1) := h
      dsimp only
      cases qi : itemsD d with
      | none =>
        rw [qi] at h
        exact h
      | some xs =>
        rw [qi] at h
        dsimp only at h ⊢
        intro J F1 H1 x1 z wk _
        have wk := wk rfl
        generalize hfb : (fun x e b => match asgn tgD x e with
          | none => Out.no
          | some e' => gb e' b) = fb at h
        refine ⟨fun i m σ H => i ≤ xs.length ∧ m = xs.length - i ∧ ∃ e b F, Pre bo H0 σ H e b F ∧ Ext bo F0 H0 F H ∧ Same F1 F ∧ finS bo F0 H0 cs W fr D F (forL fb (xs.drop i) e b), ⟨xs.length, Nat.zero_le _, rfl, e, b1, F1, p.step x1 z, x.trans x1 z, Same.refl _, finS_up x1.sf h⟩, ?_⟩
        rintro i m σ2 H2 ⟨hi, rfl, e2, b2, F2, p2, x2, s2, h2⟩
        by_cases hlt : i < xs.length
        · obtain ⟨d0, hd0⟩ : ∃ d0, xs[i]? = some d0 := ⟨xs[i], List.getElem?_eq_getElem hlt⟩
          have hdrop : xs.drop i = d0 :: xs.drop (i + 1) := by
            rw [List.drop_eq_getElem_cons hlt]
            rw [List.getElem?_eq_getElem hlt] at hd0
            rw [Option.some.inj hd0]
          rw [hdrop] at h2
          obtain ⟨go, yl⟩ := (wk i F2 H2 s2 p2.sub).1 d0 hd0
          refine .inr ⟨go, fun σ H => ∃ e b F, Pre bo H0 σ H e b F ∧ Ext bo F0 H0 F H ∧ Same F1 F ∧ finS bo F0 H0 cs W fr D F (forL fb (xs.drop (i + 1)) e b), fun σ' H' nx => ⟨xs.length - (i + 1), by omega, hlt, rfl, nx⟩, fun y H3 hy => ?_⟩
          obtain ⟨F3, x3, r3⟩ := yl y H3 hy
          have z3 : BoxRep bo F3 H3 b2 := x3.box p2.box
          have p3 := p2.step x3.of_none z3
          have x03 := x2.trans x3.of_none z3
          have h2 : finS bo F0 H0 cs W fr D F2 ((fb d0 e2 b2).bind fun e1 b1 => forL fb (xs.drop (i + 1)) e1 b1) := h2
          have hfb0 : fb d0 e2 b2 = match asgn tgD d0 e2 with
            | none => Out.no
            | some e' => gb e' b2 := by rw [← hfb]
          cases qa : asgn tgD d0 e2 with
          | none =>
            rw [qa] at hfb0
            rw [hfb0] at h2
            exact h2.elim
          | some e' =>
            rw [qa] at hfb0
            rw [hfb0] at h2
            have h2 : finS bo F0 H0 cs W fr D F2 ((gb e' b2).bind fun e1 b1 => forL fb (xs.drop (i + 1)) e1 b1) := h2
            refine ⟨e2, b2, F3, d0, e', p3, r3, qa, fun σ4 p4 _ _ => ⟨e', b2, F3, p4, x03, ?_⟩⟩
            have s3 : Same F1 F3 := s2.trans x3.sf
            cases qb : gb e' b2 with
            | no =>
              rw [qb] at h2
              exact h2.elim
            | rt d b =>
              rw [qb] at h2
              exact h2
            | xx e c d b =>
              rw [qb] at h2
              exact h2
            | nx e5 b5 =>
              rw [qb] at h2
              exact fun σ5 F5 H5 p5 x5 s5 => ⟨e5, b5, F5, p5, x5, s3.trans s5, finS_up (x3.sf.trans s5) h2⟩
        · have hie : i = xs.length := by omega
          subst hie
          rw [List.drop_length] at h2
          exact .inl ⟨(wk _ F2 H2 s2 p2.sub).2 rfl, h2 σ2 F2 H2 p2 x2 (Same.refl _)⟩
theorem sS_while {c : Expr} {body : List Stmt} {pos : Pos} {ov fe : Bool} {g : Env → Bx → R P} {gb : Env → Bx → Out} {n : Nat} (hp : PassesOwn (model X.prog X.w) X.A X.env X.xe) (hc : Snd X bo H0 cs W ov fe c g) (hb : PSs X body (liftS bo F0 H0 cs W fr gb)) :
    PS X (.While c body [] pos) (liftS bo F0 H0 cs W fr fun e b => whileL (gT g) gb n e b) :=
  PS.imp (ps_while hp hc.t hb) fun D σ H ⟨e, b, F, p, x, h⟩ => by
    refine ⟨fun m σ H => ∃ e b F, Pre bo H0 σ H e b F ∧ Ext bo F0 H0 F H ∧ finS bo F0 H0 cs W fr D F (whileL (gT g) gb m e b), ⟨n, e, b, F, p, x, h⟩, ?_⟩
    rintro m σ2 H2 ⟨e2, b2, F2, p2, x2, h2⟩
    cases m with
    | zero => exact h2.elim
    | succ m =>
      refine ⟨e2, b2, F2, p2, finT_out p2 x2 h2 fun t b1 F1 H1 p1 x1 _ h1 => ?_⟩
      cases t with
      | true =>
        rw [if_pos rfl] at h1 ⊢
        refine ⟨fun σ H => ∃ e b F, Pre bo H0 σ H e b F ∧ Ext bo F0 H0 F H ∧ finS bo F0 H0 cs W fr D F (whileL (gT g) gb m e b), fun σ' H' nx => ⟨m, Nat.lt_succ_self m, nx⟩, e2, b1, F1, p1, x1, ?_⟩
        cases qb : gb e2 b1 with
        | no =>
          rw [qb] at h1
          exact h1.elim
        | rt d b =>
          rw [qb] at h1
          exact h1
        | xx e c d b =>
          rw [qb] at h1
          exact h1
        | nx e5 b5 =>
          rw [qb] at h1
          exact fun σ5 F5 H5 p5 x5 s5 => ⟨e5, b5, F5, p5, x5, finS_up s5 h1⟩
      | false =>
        rw [if_neg Bool.false_ne_true] at h1 ⊢
        exact h1 σ2 F1 H1 p1 x1 (Same.refl _)
end
end Dv
/-! text DA -/
set_option Elab.async false
set_option linter.all false
set_option maxRecDepth 100000
set_option maxHeartbeats 4000000
namespace HT
open PySem PySem.Spec PyProof.Rows L2
theorem dv_fmap {α β : Type} {f g : α → Option β} : ∀ {l : List α}, (∀ x ∈ l, f x = g x) → l.filterMap f = l.filterMap g
  | [], _ => rfl
  | x :: l, h => by
    rw [List.filterMap_cons, List.filterMap_cons, h x List.mem_cons_self, dv_fmap fun y hy => h y (List.mem_cons_of_mem _ hy)]
section
variable {prog : Program} {w : World} {A : Around} {E : Value → Shared → Prop} {s : Shared}
/-! ### t[::-1] -/
theorem dv_applied {sl : Addr} {vs : Value} {n : Nat} {Q : Int × Int × Nat → Shared → Prop} (hs : s.heap.IsSliceOf sl .none .none vs) (ps : IsPart vs (some (-1)))
    (h : Q ((n : Int) - 1, -1, n) s) : wpAny (model prog w) A (Builtin.Slice.sliceApplied (.ref sl) (pure (n : Int))) Q E s := by
  obtain ⟨os, hos, hcs, hds⟩ := id hs
  unfold Builtin.Slice.sliceApplied Builtin.Slice.sliceFields
  refine wpAny_bind (wpAny_bind (wpAny_field hos hds (x := .none) rfl (wpAny_bind (wpAny_field hos hds (x := .none) rfl (wpAny_bind (wpAny_field hos hds (x := vs) rfl (wpAny_pure ?_)))))))
  refine wpAny_bind (slicePart_ ps ?_)
  show wpAny _ _ (if ((-1 : Int) == 0) = true then _ else _) _ _ s
  rw [if_neg (by decide)]
  refine wpAny_bind (slicePart_none (wpAny_bind (slicePart_none (wpAny_bind (wpAny_pure ?_)))))
  show wpAny _ _ (match Builtin.Slice.sliceAdjust none none (-1) (n : Int) with | (lo, hi) => pure (lo, (-1 : Int), Builtin.Slice.slicePlaces lo hi (-1))) _ _ s
  have e1 : Builtin.Slice.sliceAdjust none none (-1) (n : Int) = ((n : Int) - 1, -1) := by
    unfold Builtin.Slice.sliceAdjust
    rfl
  have e2 : Builtin.Slice.slicePlaces ((n : Int) - 1) (-1) (-1) = n := by
    unfold Builtin.Slice.slicePlaces
    simp
    omega
  rw [e1]
  show wpAny _ _ (pure ((n : Int) - 1, (-1 : Int), Builtin.Slice.slicePlaces ((n : Int) - 1) (-1) (-1))) _ _ s
  rw [e2]
  exact wpAny_pure h
theorem dv_pick (xs : Array Value) : ((List.range xs.size).filterMap fun (m : Nat) => xs[(((xs.size : Int) - 1) + (m : Int) * -1).toNat]?).toArray = xs.toList.reverse.toArray := by
  have h := PySem.W.krv_pick xs
  unfold slicePick at h
  rw [PySem.W.krv_bounds] at h
  have h : ((sliceRange ((xs.size : Int) - 1) (-1) (-1)).filterMap (xs[·]?)).toArray = xs.toList.reverse.toArray := h
  rw [PySem.W.krv_sliceRange, List.filterMap_map] at h
  rw [← h]
  congr 1
  apply dv_fmap
  intro m hm
  have := List.mem_range.mp hm
  show xs[(((xs.size : Int) - 1) + (m : Int) * -1).toNat]? = xs[xs.size - 1 - m]?
  congr 1
  omega
theorem dv_getItem {t sl : Addr} {items : Array Value} {vs : Value} {Q : Value → Shared → Prop} (ht : IsTup s.heap t items) (hs : s.heap.IsSliceOf sl .none .none vs) (ps : IsPart vs (some (-1)))
    (h : Q (.ref s.heap.objs.size) { s with heap := s.heap.push { cls := .type "tuple", data := .seq items.toList.reverse.toArray } })
    (hsz : items.size ≤ sizeLine) : wpAny (model prog w) A (getItem (.ref t) (.ref sl)) Q E s := by
  have htake : sizeOk (.seq items.toList.reverse.toArray) := by
    show items.toList.reverse.toArray.size ≤ sizeLine
    rw [List.size_toArray, List.length_reverse, Array.length_toList]
    exact hsz
  obtain ⟨os, hos, hcs, hds⟩ := id hs
  have hTs : s.TypeIs (.ref sl) "slice" := ⟨os, hos, hcs⟩
  unfold getItem
  try with_reducible refine wpAny_holding ?_
  first | refine wpAny_bind (wpAny_pure ?_) | skip
  refine wpAny_bind (wpAny_sequenceKey ht.typeIs (by decide) ?_)
  refine wpAny_bind (wpAny_callSpecial?_slot (name := Str.ofString "__getitem__") ht.typeIs PyProof.Rows.slot_tuple_getitem
    (wpAny_call_entry PyProof.Rows.slot_tuple_getitem ht.typeIs entry_tuple_getitem ?_ (args_tuple_getitem _ _)))
  show wpAny _ _ (Builtin.Tuple.tupleItemsOf (.ref t) >>= _) _ _ s
  refine wpAny_bind (tupleItemsOf_ ht ?_)
  refine wpAny_bind (wpAny_typeOf hTs ?_)
  rw [if_pos (by decide)]
  refine wpAny_bind (dv_applied hs ps ?_)
  have hno : ¬ (((items.size : Int) - 1 == 0 && (-1 : Int) == 1 && items.size == items.size) = true) := by
    intro q
    rw [Bool.and_eq_true, Bool.and_eq_true] at q
    exact absurd q.1.2 (by decide)
  show wpAny _ _ (if ((items.size : Int) - 1 == 0 && (-1 : Int) == 1 && items.size == items.size) = true then _ else _) _ _ s
  rw [if_neg hno, dv_pick]
  first
    | exact wpAny_bind (m := Builtin.Tuple.tupleExact _) (wpAny_newObj_type (wpAny_pure ⟨_, rfl, wpAny_pure h⟩) htake)
    | exact wpAny_bind (m := Builtin.Tuple.tupleExact _) (wpAny_newObj_type (wpAny_bind (wpAny_pure (wpAny_pure ⟨_, rfl, wpAny_pure h⟩))) htake)
    | exact wpAny_bind (wpAny_bind (m := Builtin.Tuple.tupleExact _) (wpAny_newObj_type (wpAny_pure (wpAny_pure ⟨_, rfl, wpAny_pure h⟩)) htake))
    | exact wpAny_bind (wpAny_bind (m := Builtin.Tuple.tupleExact _) (wpAny_newObj_type (wpAny_pure ⟨_, rfl, wpAny_pure h⟩) htake))
end
end HT
namespace Dv
open PySem PySem.Spec PyProof.Rows L2
section
variable {X : Cx} {bo : Option Addr} {H0 : Hp} {cs : Cls'} {W : WX}
def tRevT (K : PySem.W.Frag) (te : TE) : TE := fun σ H Q => te σ H fun x H1 => (∃ a xs, x = .ref a ∧ SqL K H1 a xs ∧ ∀ p, H1 p = none → Q (.ref p) (upd H1 p (.lst xs.reverse))) ∨
  ∃ a xs, x = .ref a ∧ SqT K H1 a xs ∧ ∀ p, H1 p = none → Q (.ref p) (upd H1 p (.tup xs.reverse))
theorem pe_revA {e : Expr} {te : TE} {k : Nat} {p1 p2 p3 pos : Pos} (he : PE X e te) : PE X (.Subscript e (.Slice none none (some (.UnaryOp .USub (.Constant (.int 1) k p1) p2)) p3) pos) (tRevT X.K te) := by
  refine ⟨fun pins s σ H Q I h => ?_⟩
  refine Subscript_ (thn (he.run pins s σ H _ I h) fun v s1 ⟨x, H1, I1, r1, q1⟩ => ?_)
  have hst : PO X (some (.UnaryOp .USub (.Constant (.int 1) k p1) p2)) (tPart (tUn (rU fun i => .int (-i)) (tC (.int 1)))) := po_some (pe_un un_neg pe_int)
  refine wpAny_Slice (thn (po_none.run pins s1 σ H1 (fun o H2 => o = none ∧ H2 = H1) I1 ⟨rfl, rfl⟩) fun vl s2 ⟨l, H2, I2, pl, el, e2⟩ => ?_)
  subst el e2
  refine thn (po_none.run pins s2 σ H2 (fun o H3 => o = none ∧ H3 = H2) I2 ⟨rfl, rfl⟩) fun vu s3 ⟨u, H3, I3, pu, eu, e3⟩ => ?_
  subst eu e3
  refine thn (hst.run pins s3 σ H3 (fun o H4 => o = some (-1) ∧ H4 = H3) I3 ⟨1, rfl, -1, rfl, rfl, rfl⟩) fun vs s4 ⟨o, H4, I4, ps, eo, e4⟩ => ?_
  subst eo e4
  have I5 : Inv X pins σ H4 { s4 with heap := s4.heap.push { cls := .type "slice", data := .fields #[vl, vu, vs] } } := I4.kept (t' := s4.toks) fun b ob q => Heap.get?_push_of_some _ q
  rcases q1 with ⟨a, xs, ex, hx, q⟩ | ⟨a, xs, ex, hx, q⟩
  · subst ex
    cases r1
    obtain ⟨its, r, ht, hz⟩ := I5.list hx
    have hlen := r.length
    show wpAny (model X.prog X.w) X.A (subscriptTail e (.Slice none none (some (.UnaryOp .USub (.Constant (.int 1) k p1) p2)) p3) (.ref a) (.ref s4.heap.objs.size)) (EP X pins σ Q) X.xe { s4 with heap := s4.heap.push { cls := .type "slice", data := .fields #[vl, vu, vs] } }
    refine tail_any (ops := [.ref a, .ref s4.heap.objs.size]) ht.isList.typeIs (PySem.slot_list_getitem.lookup) ?_ (by with_unfolding_all rfl)
    refine wpAny_getItem_list_slice ht.isList (Heap.IsSliceOf.new _ vl vu vs) pl pu ps (by decide) ?_ (by rw [List.size_toArray]; omega)
    rw [PySem.W.krv_pick]
    refine ⟨.ref _, _, I5.laid (t' := s4.toks) (o := .lst xs.reverse) (fun b ob q => Heap.get?_push_of_some _ q) (Nat.le_refl _) ?_, rfl, q _ (I5.hok.fresh (Nat.le_refl _))⟩
    exact ⟨by rw [List.length_reverse]; exact hz, _, 0, r.reverse, Heap.get?_push_size _ rfl⟩
  · subst ex
    cases r1
    obtain ⟨its, r, ht, hz⟩ := I5.tuple hx
    have hlen := r.length
    have pl : IsPart vl none := pl
    have pu : IsPart vu none := pu
    have el : vl = .none := by cases pl; rfl
    have eu : vu = .none := by cases pu; rfl
    subst el eu
    show wpAny (model X.prog X.w) X.A (subscriptTail e (.Slice none none (some (.UnaryOp .USub (.Constant (.int 1) k p1) p2)) p3) (.ref a) (.ref s4.heap.objs.size)) (EP X pins σ Q) X.xe { s4 with heap := s4.heap.push { cls := .type "slice", data := .fields #[.none, .none, vs] } }
    refine tail_any (ops := [.ref a, .ref s4.heap.objs.size]) ht.typeIs (PyProof.Rows.slot_tuple_getitem.lookup) ?_ (by with_unfolding_all rfl)
    refine HT.dv_getItem ht (Heap.IsSliceOf.new _ .none .none vs) ps ?_ (by rw [List.size_toArray]; omega)
    refine ⟨.ref _, _, I5.laid (t' := s4.toks) (o := .tup xs.reverse) (fun b ob q => Heap.get?_push_of_some _ q) (Nat.le_refl _) ?_, rfl, q _ (I5.hok.fresh (Nat.le_refl _))⟩
    exact ⟨by rw [List.length_reverse]; exact hz, _, r.reverse, IsTup.new _ _⟩
theorem snd_rev {ov o1 f1 fr : Bool} {e : Expr} {k : Nat} {p1 p2 p3 pos : Pos} {g : Env → Bx → R P} (he : Snd X bo H0 cs W o1 f1 e g) :
    Snd X bo H0 cs W ov fr (.Subscript e (.Slice none none (some (.UnaryOp .USub (.Constant (.int 1) k p1) p2)) p3) pos) fun e b => (g e b).bind fun d b1 => R.ofO (revD d) b1 :=
  Snd.of_f (PE.imp (pe_revA he.r) fun σ H Q ⟨e, b, F, p, h⟩ => ⟨e, b, F, p, fin_bind hRFf p h fun d b1 v F1 H1 p1 x1 r1 h1 => by
    cases d with
    | list ds =>
      obtain ⟨a, vs, rfl, n, hh, ra⟩ := r1
      refine .inl ⟨a, vs, rfl, SqL.of hh, fun q hq => ?_⟩
      obtain ⟨m1, m2⟩ := made_lst (ds := ds.reverse) p1.sub p1.box hq ra.reverse
      exact h1 _ F1 _ m1.of_none (m1.box p1.box) m2
    | tuple ds =>
      obtain ⟨a, vs, rfl, hh, ra⟩ := RpR.tup (bo := bo) (H := H1) r1
      refine .inr ⟨a, vs, rfl, SqT.of (p1.sub _ _ hh), fun q hq => ?_⟩
      obtain ⟨F2, m1, m2⟩ := made_tup (ds := ds.reverse) p1.sub hq ra.reverse
      exact h1 _ F2 _ m1.of_none (m1.box p1.box) m2
    | none => exact h1.elim
    | bool b => exact h1.elim
    | int i => exact h1.elim
    | str z => exact h1.elim
    | dict ds => exact h1.elim⟩) rfl
end
end Dv
/-! text DB -/
set_option Elab.async false
set_option linter.all false
set_option maxRecDepth 100000
set_option maxHeartbeats 4000000
namespace Dv
open PySem PySem.Spec PyProof.Rows L2
section
variable {X : Cx} {bo : Option Addr} {H0 : Hp} {cs : Cls'} {W : WX}
/-! ### walks over range, zip, enumerate -/
theorem rngUp_len : ∀ (lo : Int) (n : Nat), (rngUp lo n).length = n
  | _, 0 => rfl
  | lo, n + 1 => congrArg (· + 1) (rngUp_len (lo + 1) n)
theorem rngUp_get : ∀ {lo : Int} {n i : Nat}, i < n → (rngUp lo n)[i]? = some (.int (lo + i))
  | _, n + 1, 0, _ => by simp [rngUp]
  | lo, n + 1, i + 1, h => by
    show (rngUp (lo + 1) n)[i]? = _
    rw [rngUp_get (by omega)]
    congr 2
    omega
theorem rngBy_len : ∀ (lo c : Int) (n : Nat), (rngBy lo c n).length = n
  | _, _, 0 => rfl
  | lo, c, n + 1 => congrArg (· + 1) (rngBy_len (lo + c) c n)
theorem rngBy_get : ∀ {lo c : Int} {n i : Nat}, i < n → (rngBy lo c n)[i]? = some (.int (lo + i * c))
  | lo, c, n + 1, 0, _ => by simp [rngBy]
  | lo, c, n + 1, i + 1, h => by
    show (rngBy (lo + c) c n)[i]? = _
    rw [rngBy_get (by omega)]
    congr 2
    rw [Int.natCast_add, Int.add_mul]
    omega
theorem lt_of_get {α : Type} {l : List α} {i : Nat} {d : α} (h : l[i]? = some d) : i < l.length := (List.getElem?_eq_some_iff.mp h).1
theorem wk_rng {F : Hp} {lo : Int} {n : Nat} : WalkS (Itr lo n) F (rngUp lo n) := fun i F2 H2 s1 s2 => ⟨fun d hd => by
    have hi : i < n := by
      have := lt_of_get hd
      rw [rngUp_len] at this
      exact this
    refine ⟨hi, fun y H3 hy => ?_⟩
    obtain ⟨rfl, rfl⟩ := hy
    rw [rngUp_get hi] at hd
    cases hd
    exact ⟨F2, Ext.refl s2, .int _⟩, fun hi => by
    rw [rngUp_len] at hi
    show n ≤ i
    omega⟩
theorem wk_rngC {F : Hp} {lo c : Int} {n : Nat} : WalkS (Itc lo c n) F (rngBy lo c n) := fun i F2 H2 s1 s2 => ⟨fun d hd => by
    have hi : i < n := by
      have := lt_of_get hd
      rw [rngBy_len] at this
      exact this
    refine ⟨hi, fun y H3 hy => ?_⟩
    obtain ⟨e1, e2⟩ := hy
    subst e1
    subst e2
    rw [rngBy_get hi] at hd
    cases hd
    exact ⟨F2, Ext.refl s2, .int _⟩, fun hi => by
    rw [rngBy_len] at hi
    show n ≤ i
    omega⟩
theorem int62_iff {i : Int} (h : int62 i = true) : -(2 ^ 62) ≤ i ∧ i < 2 ^ 62 := by
  have h := leN_iff h
  constructor <;> omega
/-- what an argument list of a walk gives -/
theorem liftI_args {gs : Env → Bx → R P} {f : List P → Option (List P)} {st : Bool} {m : Mo} {σ : L2.St} {H : Hp} {Rr : It → Hp → Prop} {Q1 : List V → Hp → Prop} (h : liftI bo H0 cs W st (fun e b => (gs e b).bind fun ds b1 => R.ofO ((f (argsOf ds)).map .list) b1) σ H Rr)
    (hk : ∀ ds xs vs F1 H1, Same F1 H1 → Paired (RpM bo F1 H1 m) vs ds → f ds = some xs → (∀ J, (st = true → WalkS J F1 xs) → WalkW J bo F1 H1 xs → Rr J H1) → Q1 vs H1) : liftA bo H0 cs W m gs σ H Q1 := by
  obtain ⟨e, b, F, p, h⟩ := h
  refine ⟨e, b, F, p, ?_⟩
  dsimp only at h
  cases q : gs e b with
  | no =>
    rw [q] at h
    exact h
  | ex c d b1 =>
    rw [q] at h
    exact h
  | ok d b1 =>
    rw [q] at h
    intro vs F1 H1 x z r
    rw [bindR_ok] at h
    cases qf : f (argsOf d) with
    | none =>
      rw [qf] at h
      exact h.elim
    | some xs =>
      rw [qf] at h
      exact hk _ xs vs F1 H1 x.sub r qf fun J w1 w2 => h J F1 H1 x z w1 w2
theorem one_int {vs : List V} {i : Int} {F H : Hp} (r : Paired (RpM bo F H .r) vs [.int i]) : vs = [.int i] := by
  cases r with
  | cons r1 t =>
    cases t
    rw [RpR.int (bo := bo) (F := F) (H := H) r1]
theorem two_int {vs : List V} {i j : Int} {F H : Hp} (r : Paired (RpM bo F H .r) vs [.int i, .int j]) : vs = [.int i, .int j] := by
  cases r with
  | cons r1 t =>
    rw [RpR.int (bo := bo) (F := F) (H := H) r1]
    rw [one_int t]
theorem three_int {vs : List V} {i j k : Int} {F H : Hp} (r : Paired (RpM bo F H .r) vs [.int i, .int j, .int k]) : vs = [.int i, .int j, .int k] := by
  cases r with
  | cons r1 t =>
    rw [RpR.int (bo := bo) (F := F) (H := H) r1]
    rw [two_int t]
theorem paired_len {α β : Type} {r : α → β → Prop} : ∀ {xs : List α} {ys : List β}, Paired r xs ys → xs.length = ys.length
  | _, _, .nil => rfl
  | _, _, .cons _ t => congrArg (· + 1) (paired_len t)
def rng1 : List P → Option (List P)
  | [.int j] => if int62 j then some (rngUp 0 j.toNat) else none
  | _ => none
def rng2 : List P → Option (List P)
  | [.int i, .int j] => if int62 i && int62 j then some (rngUp i (j - i).toNat) else none
  | _ => none
def rng3 : List P → Option (List P)
  | [.int i, .int j, .int (-1)] => if int62 i && int62 j then some (rngBy i (-1) (i - j).toNat) else none
  | _ => none
theorem spi_rng1 {tg a : Expr} {p pos : Pos} {gs : Env → Bx → R P} {st : Bool} (hg : Gl X "range") (hm : X.mg "range" = none) (ha : PA X [a] (liftA bo H0 cs W .r gs)) (hst : notStar a = true) :
    PI X tg (.Call (.Name "range" p) [a] [] pos) (liftI bo H0 cs W st fun e b => (gs e b).bind fun ds b1 => R.ofO ((rng1 (argsOf ds)).map .list) b1) :=
  PI.imp (pi_range1 hg hm ha (starEach_of hst)) fun σ H Rr h => liftI_args h fun ds xs vs F1 H1 s1 r hf k => by
    unfold rng1 at hf
    split at hf
    · rename_i j
      split at hf
      · rename_i hj
        cases hf
        obtain ⟨h1, h2⟩ := int62_iff hj
        rw [one_int r]
        exact ⟨j, rfl, h1, h2, k _ (fun _ => wk_rng) wk_rng.w⟩
      · cases hf
    · cases hf
theorem spi_rng2 {tg a a2 : Expr} {p pos : Pos} {gs : Env → Bx → R P} {st : Bool} (hg : Gl X "range") (hm : X.mg "range" = none) (ha : PA X [a, a2] (liftA bo H0 cs W .r gs)) (hst : notStar a = true) (hst2 : notStar a2 = true) :
    PI X tg (.Call (.Name "range" p) [a, a2] [] pos) (liftI bo H0 cs W st fun e b => (gs e b).bind fun ds b1 => R.ofO ((rng2 (argsOf ds)).map .list) b1) :=
  PI.imp (pi_range2 hg hm ha (by rw [starEach_of hst, starEach_of hst2] <;> rfl) (starEach_of hst2)) fun σ H Rr h => liftI_args h fun ds xs vs F1 H1 s1 r hf k => by
    unfold rng2 at hf
    split at hf
    · rename_i i j
      split at hf
      · rename_i hj
        cases hf
        rw [Bool.and_eq_true] at hj
        obtain ⟨h1, h2⟩ := int62_iff hj.1
        obtain ⟨h3, h4⟩ := int62_iff hj.2
        rw [two_int r]
        exact ⟨i, j, rfl, ⟨h1, h2, h3, h4⟩, k _ (fun _ => wk_rng) wk_rng.w⟩
      · cases hf
    · cases hf
theorem spi_rng3 {tg a a2 a3 : Expr} {p pos : Pos} {gs : Env → Bx → R P} {st : Bool} (hg : Gl X "range") (hm : X.mg "range" = none) (ha : PA X [a, a2, a3] (liftA bo H0 cs W .r gs)) (hst : notStar a = true) (hp : allPlain [a2, a3] = true) :
    PI X tg (.Call (.Name "range" p) [a, a2, a3] [] pos) (liftI bo H0 cs W st fun e b => (gs e b).bind fun ds b1 => R.ofO ((rng3 (argsOf ds)).map .list) b1) :=
  PI.imp (pi_range3 hg hm ha (starEach_of hst) (noStars hp)) fun σ H Rr h => liftI_args h fun ds xs vs F1 H1 s1 r hf k => by
    unfold rng3 at hf
    split at hf
    · rename_i i j
      split at hf
      · rename_i hj
        cases hf
        rw [Bool.and_eq_true] at hj
        obtain ⟨h1, h2⟩ := int62_iff hj.1
        obtain ⟨h3, h4⟩ := int62_iff hj.2
        rw [three_int r]
        exact ⟨i, j, -1, _, rfl, RgC.neg h1 h2 h3 h4, k _ (fun _ => wk_rngC) wk_rngC.w⟩
      · cases hf
    · cases hf
theorem zipD_get : ∀ {xs ys : List P} {i : Nat} {d : P}, (zipD xs ys)[i]? = some d → ∃ a b, xs[i]? = some a ∧ ys[i]? = some b ∧ d = .tuple [a, b]
  | x :: xs, y :: ys, 0, d, h => by
    cases h
    exact ⟨x, y, rfl, rfl, rfl⟩
  | x :: xs, y :: ys, i + 1, d, h => zipD_get (xs := xs) (ys := ys) (i := i) h
  | [], ys, i, d, h => by cases ys <;> cases h
  | x :: xs, [], i, d, h => by cases h
theorem zipD_len : ∀ {xs ys : List P}, (zipD xs ys).length = min xs.length ys.length
  | [], ys => by cases ys <;> simp [zipD]
  | x :: xs, [] => by simp [zipD]
  | x :: xs, y :: ys => by simp [zipD, zipD_len (xs := xs) (ys := ys)]
theorem pair_new {F H : Hp} {T : Addr} {x y : V} {a b : P} (s : Same F H) (hT : H T = none) (rx : Rp F x a) (ry : Rp F y b) : ∃ F', Ext none F H F' (upd H T (.tup [x, y])) ∧ Rp F' (.ref T) (.tuple [a, b]) :=
  made_tup s hT (.cons rx (.cons ry .nil))
theorem wk_zipL {K : PySem.W.Frag} {F : Hp} {H : Hp} {a b : Addr} {vs ws : List V} {xs ys : List P} (n1 : some a ≠ bo) (n2 : some b ≠ bo) (ha : H a = some (.lst vs)) (hb : H b = some (.lst ws)) (ra : RpA F vs xs) (rb : RpA F ws ys) : WalkW (Itz K a b) bo F H (zipD xs ys) :=
  fun i F2 H2 x2 => ⟨fun d hd => by
    obtain ⟨p, q, h1, h2, rfl⟩ := zipD_get hd
    obtain ⟨v, e1, r1⟩ := ra.get h1
    obtain ⟨w, e2, r2⟩ := rb.get h2
    have ka := SqL.of (K := K) (x2.keep _ _ n1 ha)
    have kb := SqL.of (K := K) (x2.keep _ _ n2 hb)
    refine ⟨⟨vs, ws, v, w, ka, kb, e1, e2⟩, fun y H3 hy => ?_⟩
    obtain ⟨T, y1, y2, rfl, hT, rfl, f1, f2⟩ := hy
    have g1 := f1 vs ka
    have g2 := f2 ws kb
    rw [e1] at g1
    rw [e2] at g2
    cases g1
    cases g2
    exact pair_new x2.sub hT (r1.mono x2.sf) (r2.mono x2.sf), fun hi => by
    rw [zipD_len] at hi
    refine ⟨vs, ws, SqL.of (x2.keep _ _ n1 ha), SqL.of (x2.keep _ _ n2 hb), ?_⟩
    rw [ra.length, rb.length]
    omega⟩
theorem wk_zipLS {K : PySem.W.Frag} {F : Hp} {a b : Addr} {vs ws : List V} {xs ys : List P} (ha : F a = some (.lst vs)) (hb : F b = some (.lst ws)) (ra : RpA F vs xs) (rb : RpA F ws ys) : WalkS (Itz K a b) F (zipD xs ys) :=
  fun i F2 H2 s1 s2 => ⟨fun d hd => by
    obtain ⟨p, q, h1, h2, rfl⟩ := zipD_get hd
    obtain ⟨v, e1, r1⟩ := ra.get h1
    obtain ⟨w, e2, r2⟩ := rb.get h2
    have ka := SqL.of (K := K) (s2 _ _ (s1 _ _ ha))
    have kb := SqL.of (K := K) (s2 _ _ (s1 _ _ hb))
    refine ⟨⟨vs, ws, v, w, ka, kb, e1, e2⟩, fun y H3 hy => ?_⟩
    obtain ⟨T, y1, y2, rfl, hT, rfl, f1, f2⟩ := hy
    have g1 := f1 vs ka
    have g2 := f2 ws kb
    rw [e1] at g1
    rw [e2] at g2
    cases g1
    cases g2
    exact pair_new s2 hT (r1.mono s1) (r2.mono s1), fun hi => by
    rw [zipD_len] at hi
    refine ⟨vs, ws, SqL.of (s2 _ _ (s1 _ _ ha)), SqL.of (s2 _ _ (s1 _ _ hb)), ?_⟩
    rw [ra.length, rb.length]
    omega⟩
theorem wk_zipTS {K : PySem.W.Frag} {F : Hp} {a b : Addr} {vs ws : List V} {xs ys : List P} (ha : F a = some (.tup vs)) (hb : F b = some (.tup ws)) (ra : RpA F vs xs) (rb : RpA F ws ys) : WalkS (RZ.ItzT K a b) F (zipD xs ys) :=
  fun i F2 H2 s1 s2 => ⟨fun d hd => by
    obtain ⟨p, q, h1, h2, rfl⟩ := zipD_get hd
    obtain ⟨v, e1, r1⟩ := ra.get h1
    obtain ⟨w, e2, r2⟩ := rb.get h2
    have ka := SqT.of (K := K) (s2 _ _ (s1 _ _ ha))
    have kb := SqT.of (K := K) (s2 _ _ (s1 _ _ hb))
    refine ⟨⟨vs, ws, v, w, ka, kb, e1, e2⟩, fun y H3 hy => ?_⟩
    obtain ⟨T, y1, y2, rfl, hT, rfl, f1, f2⟩ := hy
    have g1 := f1 vs ka
    have g2 := f2 ws kb
    rw [e1] at g1
    rw [e2] at g2
    cases g1
    cases g2
    exact pair_new s2 hT (r1.mono s1) (r2.mono s1), fun hi => by
    rw [zipD_len] at hi
    refine ⟨vs, ws, SqT.of (s2 _ _ (s1 _ _ ha)), SqT.of (s2 _ _ (s1 _ _ hb)), ?_⟩
    rw [ra.length, rb.length]
    omega⟩
theorem RpM.tupN {F H : Hp} {m : Mo} {v : V} {ds : List P} (r : RpM bo F H m v (.tuple ds)) : Rp F v (.tuple ds) := by
  cases m <;> exact r
def zip2 : List P → Option (List P)
  | [x, y] => zipV x y
  | _ => none
theorem spi_zip {a a2 : Expr} {p pos tpos : Pos} {elts : List Expr} {kk : Nat} {gs : Env → Bx → R P} {st : Bool} {m : Mo} (hg : Gl X "zip") (hm : X.mg "zip" = none) (ha : PA X [a, a2] (liftA bo H0 cs W m gs)) (hst : notStar a = true) (hp : allPlain [a2] = true) (hms : st = true → m = .n) :
    PI X (.Tuple elts kk tpos) (.Call (.Name "zip" p) [a, a2] [] pos) (liftI bo H0 cs W st fun e b => (gs e b).bind fun ds b1 => R.ofO ((zip2 (argsOf ds)).map .list) b1) :=
  PI.imp (RZ.pi_zipA hg hm ha (starEach_of hst) (noStars hp)) fun σ H Rr h => liftI_args (m := m) h fun ds xs vs F1 H1 s1 r hf k => by
    unfold zip2 at hf
    split at hf
    · rename_i d d'
      cases r with
      | cons r1 t =>
        cases t with
        | cons r2 t =>
          cases t
          unfold zipV at hf
          split at hf
          · cases hf
            cases m with
            | n =>
              cases (show Rp F1 _ (.list _) from r1) with
              | lst h1 q1 =>
                cases (show Rp F1 _ (.list _) from r2) with
                | lst h2 q2 =>
                  have wk := wk_zipLS (K := X.K) h1 h2 q1 q2
                  exact ⟨_, _, _, _, rfl, .inl ⟨SqL.of (s1 _ _ h1), SqL.of (s1 _ _ h2), k _ (fun _ => wk) wk.w⟩⟩
            | r =>
              obtain ⟨a1, v1, rfl, n1, h1, q1⟩ := (show RpR bo F1 H1 _ (.list _) from r1)
              obtain ⟨a2, v2, rfl, n2, h2, q2⟩ := (show RpR bo F1 H1 _ (.list _) from r2)
              exact ⟨a1, a2, v1, v2, rfl, .inl ⟨SqL.of h1, SqL.of h2, k _ (fun z => by cases hms z) (wk_zipL n1 n2 h1 h2 q1 q2)⟩⟩
          · cases hf
            have r1 := RpM.tupN r1
            have r2 := RpM.tupN r2
            cases r1 with
            | tup h1 q1 =>
              cases r2 with
              | tup h2 q2 =>
                have wk := wk_zipTS (K := X.K) h1 h2 q1 q2
                exact ⟨_, _, _, _, rfl, .inr ⟨SqT.of (s1 _ _ h1), SqT.of (s1 _ _ h2), k _ (fun _ => wk) wk.w⟩⟩
          · cases hf
    · cases hf
theorem enum_len : ∀ {k : Int} {xs : List P}, (enumFrom k xs).length = xs.length
  | _, [] => rfl
  | k, x :: xs => congrArg (· + 1) (enum_len (k := k + 1) (xs := xs))
theorem enum_get : ∀ {k : Int} {xs : List P} {i : Nat} {d : P}, (enumFrom k xs)[i]? = some d → ∃ x, xs[i]? = some x ∧ d = .tuple [.int (k + i), x]
  | k, x :: xs, 0, d, h => by
    cases h
    exact ⟨x, rfl, by simp⟩
  | k, x :: xs, i + 1, d, h => by
    obtain ⟨y, e, rfl⟩ := enum_get (k := k + 1) (xs := xs) (i := i) h
    refine ⟨y, e, ?_⟩
    congr 3
    omega
theorem wk_enum {K : PySem.W.Frag} {F H : Hp} {a : Addr} {vs : List V} {xs : List P} (n1 : some a ≠ bo) (ha : H a = some (.lst vs)) (ra : RpA F vs xs) : WalkW (Ite K a) bo F H (enumFrom 0 xs) :=
  fun i F2 H2 x2 => ⟨fun d hd => by
    obtain ⟨p, h1, rfl⟩ := enum_get hd
    obtain ⟨v, e1, r1⟩ := ra.get h1
    have ka := SqL.of (K := K) (x2.keep _ _ n1 ha)
    refine ⟨⟨vs, v, ka, e1⟩, fun y H3 hy => ?_⟩
    obtain ⟨T, y1, rfl, hT, rfl, f1⟩ := hy
    have g1 := f1 vs ka
    rw [e1] at g1
    cases g1
    rw [Int.zero_add]
    exact pair_new x2.sub hT (.int _) (r1.mono x2.sf), fun hi => by
    rw [enum_len] at hi
    exact ⟨vs, SqL.of (x2.keep _ _ n1 ha), by rw [ra.length]; omega⟩⟩
theorem wk_enumS {K : PySem.W.Frag} {F : Hp} {a : Addr} {vs : List V} {xs : List P} (ha : F a = some (.lst vs)) (ra : RpA F vs xs) : WalkS (Ite K a) F (enumFrom 0 xs) :=
  fun i F2 H2 s1 s2 => ⟨fun d hd => by
    obtain ⟨p, h1, rfl⟩ := enum_get hd
    obtain ⟨v, e1, r1⟩ := ra.get h1
    have ka := SqL.of (K := K) (s2 _ _ (s1 _ _ ha))
    refine ⟨⟨vs, v, ka, e1⟩, fun y H3 hy => ?_⟩
    obtain ⟨T, y1, rfl, hT, rfl, f1⟩ := hy
    have g1 := f1 vs ka
    rw [e1] at g1
    cases g1
    rw [Int.zero_add]
    exact pair_new s2 hT (.int _) (r1.mono s1), fun hi => by
    rw [enum_len] at hi
    exact ⟨vs, SqL.of (s2 _ _ (s1 _ _ ha)), by rw [ra.length]; omega⟩⟩
def enum1 : List P → Option (List P)
  | [x] => enumV x
  | _ => none
theorem spi_enum {a : Expr} {p pos tpos : Pos} {elts : List Expr} {kk : Nat} {gs : Env → Bx → R P} {st : Bool} {m : Mo} (hg : Gl X "enumerate") (hm : X.mg "enumerate" = none) (ha : PA X [a] (liftA bo H0 cs W m gs)) (hst : notStar a = true) (hms : st = true → m = .n) :
    PI X (.Tuple elts kk tpos) (.Call (.Name "enumerate" p) [a] [] pos) (liftI bo H0 cs W st fun e b => (gs e b).bind fun ds b1 => R.ofO ((enum1 (argsOf ds)).map .list) b1) :=
  PI.imp (pi_enum hg hm ha (starEach_of hst)) fun σ H Rr h => liftI_args (m := m) h fun ds xs vs F1 H1 s1 r hf k => by
    unfold enum1 at hf
    split at hf
    · rename_i d
      cases r with
      | cons r1 t =>
        cases t
        unfold enumV at hf
        split at hf
        · cases hf
          cases m with
          | n =>
            cases (show Rp F1 _ (.list _) from r1) with
            | lst h1 q1 =>
              have wk := wk_enumS (K := X.K) h1 q1
              exact ⟨_, _, rfl, SqL.of (s1 _ _ h1), k _ (fun _ => wk) wk.w⟩
          | r =>
            obtain ⟨a1, v1, rfl, n1, h1, q1⟩ := (show RpR bo F1 H1 _ (.list _) from r1)
            exact ⟨_, _, rfl, SqL.of h1, k _ (fun z => by cases hms z) (wk_enum n1 h1 q1)⟩
        · cases hf
    · cases hf
end
end Dv
/-! text DC -/
set_option Elab.async false
set_option linter.all false
set_option maxRecDepth 100000
set_option maxHeartbeats 4000000
namespace Dv
open PySem PySem.Spec PyProof.Rows L2
/-! ### calls with keywords -/
def KwB (fd : FuncData) (ps : List Str) (n : Nat) (ks : List Str) (pm : List Nat) : Prop := ∀ us ws : List Value, us.length = n → ws.length = ks.length → bindArgs fd ⟨us, ks.zip ws⟩ = pure (ps.zip (kperm pm (us ++ ws)))
def FnK (X : Cx) (cs : Cls') (x : Str) (fr : Bool) (np n : Nat) (ks : List Str) (pm : List Nat) (g : List P → Bx → R P) : Prop :=
  ∃ (fa : Addr) (fd : FuncData) (ps : List Str) (k : Nat), X.mg x = some (.ref fa) ∧ PySem.W.keepIn X.K (.ref fa) = true ∧ FnOk X.prog X.w X.K X.mg X.base (L2.CX X.prog X.w) k fa fd ps (spOf cs false fr np g) ∧ KwB fd ps n ks pm ∧ Room k X.A
theorem kperm_vals {vs : List V} {us : List Value} (r : Vals vs us) : ∀ pm : List Nat, Vals (kperm pm vs) (kperm pm us)
  | [] => .nil
  | i :: pm => by
    unfold kperm
    rw [List.filterMap_cons, List.filterMap_cons]
    cases q : vs[i]? with
    | none =>
      rw [Vals.none_of r q]
      exact kperm_vals r pm
    | some v =>
      obtain ⟨u, e, ru⟩ := Vals.get r q
      rw [e]
      exact .cons ru (kperm_vals r pm)
theorem kperm_rp {F : Hp} {vs : List V} {ds : List P} (r : RpA F vs ds) : ∀ pm : List Nat, RpA F (kperm pm vs) (kperm pm ds)
  | [] => .nil
  | i :: pm => by
    unfold kperm
    rw [List.filterMap_cons, List.filterMap_cons]
    cases q : ds[i]? with
    | none =>
      have : vs[i]? = none := by
        rw [List.getElem?_eq_none_iff, r.length]
        exact List.getElem?_eq_none_iff.mp q
      rw [this]
      exact kperm_rp r pm
    | some d =>
      obtain ⟨v, e, rv⟩ := r.get q
      rw [e]
      exact .cons rv (kperm_rp r pm)
section
variable {X : Cx} {bo : Option Addr} {H0 : Hp} {cs : Cls'} {W : WX}
theorem run_fnSK {E : L2.St → XK} {k : Nat} {f : Addr} {fd : FuncData} {ps ks : List Str} {sp : Sp} {n : Nat} {pm : List Nat} {pins : List (Addr × Obj)} {σ : L2.St} {H : Hp} {s : Shared} {Q : VK} {us ws : List Value} {vs zs : List V} (F : FnOk X.prog X.w X.K X.mg X.base (L2.CX X.prog X.w) k f fd ps sp) (hr : Room k X.A) (hb : KwB fd ps n ks pm) (hx : PassesAt (L2.CX X.prog X.w) X σ (E σ))
    (I : Inv X pins σ H s) (r : Vals vs us) (rz : Vals zs ws) (l1 : vs.length = n) (l2 : zs.length = ks.length) (h : sp (kperm pm (vs ++ zs)) H Q (E σ)) : wpAny (model X.prog X.w) X.A (call (.ref f) us (ks.zip ws)) (EP X pins σ Q) X.xe s := by
  have b : BindsTo s fd ⟨us, ks.zip ws⟩ (ps.zip (kperm pm (us ++ ws))) := .of_eq (hb us ws (by rw [← r.length]; exact l1) (by rw [← rz.length]; exact l2))
  refine wpAny_call (codeAny_mono (F.run X.A X.stack s H ⟨us, ks.zip ws⟩ (kperm pm (us ++ ws)) (kperm pm (vs ++ zs)) Q (E σ) hr I.env0 b (kperm_vals (r.append rz) pm) h) fun r s' hq => ?_)
  cases r with
  | error e => exact hx pins H s e s' I hq
  | ok fl =>
    cases fl with
    | ret u => exact I.after hq
    | next => exact False.elim hq
    | brk => exact False.elim hq
    | cont => exact False.elim hq
def tCallSK (n m : Nat) (pm : List Nat) (sp : Sp) (E : L2.St → XK) (t tk : TA) : TE := fun σ H Q => t σ H fun vs H1 => tk σ H1 fun zs H2 => vs.length = n ∧ zs.length = m ∧ sp (kperm pm (vs ++ zs)) H2 Q (E σ)
theorem kwOk {pos : Pos} {env : PySem.Env} : ∀ {kws : List Keyword} {ks : List Str}, kws.map Keyword.arg = ks.map some → (backToKw pos (keywordEach kws env)).all (·.1.isSome) = true ∧ (backToKw pos (keywordEach kws env)).filterMap (·.1) = ks ∧ (backToKw pos (keywordEach kws env)).any (·.1.isNone) = false
  | [], [], _ => ⟨rfl, rfl, rfl⟩
  | [], _ :: _, h => by cases h
  | _ :: _, [], h => by cases h
  | ⟨a, e, p⟩ :: kws, k :: ks, h => by
    rw [List.map_cons, List.map_cons] at h
    injection h with h1 h2
    have h1 : a = some k := h1
    subst h1
    obtain ⟨q1, q2, q3⟩ := kwOk (pos := pos) (env := env) h2
    refine ⟨?_, ?_, ?_⟩
    · show (true && (backToKw pos (keywordEach kws env)).all (·.1.isSome)) = true
      rw [q1]
      rfl
    · show k :: (backToKw pos (keywordEach kws env)).filterMap (·.1) = k :: ks
      rw [q2]
    · show (false || (backToKw pos (keywordEach kws env)).any (·.1.isNone)) = false
      rw [q3]
      rfl
theorem pe_callSK {E : L2.St → XK} {k : Nat} {f : Addr} {fd : FuncData} {ps ks : List Str} {sp : Sp} {n : Nat} {pm : List Nat} {x : Str} {p pos : Pos} {es : List Expr} {kws : List Keyword} {t tk : TA} (F : FnOk X.prog X.w X.K X.mg X.base (L2.CX X.prog X.w) k f fd ps sp) (hr : Room k X.A) (hg : Gl X x) (hm : X.mg x = some (.ref f)) (hk : PySem.W.keepIn X.K (.ref f) = true) (hb : KwB fd ps n ks pm) (hx : ∀ σ, PassesAt (L2.CX X.prog X.w) X σ (E σ))
    (ha : PA X es t) (hkw : PK X kws tk) (hks : kws.map Keyword.arg = ks.map some) (hdb : (x == ("__debug__" : Str)) = false) (hp : (!es.isEmpty && allPlain es) = true) : PE X (.Call (.Name x p) es kws pos) (tCallSK n ks.length pm sp E t tk) := by
  obtain ⟨k1, k2, k3⟩ := kwOk (pos := pos) (env := X.env) hks
  refine ⟨fun pins s σ H Q I h => ?_⟩
  refine wpAny_Call_Name_kw (ld_glob I hg hm ?_ hdb)
  cases es with
  | nil =>
    cases hp
  | cons e es =>
    have hp : allPlain (e :: es) = true := hp
    unfold allPlain at hp
    rw [List.all_cons, Bool.and_eq_true] at hp
    refine PySem.W.callWith_KW (h₀ := X.base) I.ok.mod.kin hk k1 (thn (ha.run pos pins s σ H _ I h) fun us s1 ⟨vs, H1, I1, r, q⟩ => ?_) ?_ (starEach_of hp.1)
    · refine thn (hkw.run pos pins s1 σ H1 _ I1 q) fun ws s2 ⟨zs, H2, I2, rz, l1, l2, q2⟩ => ⟨I2.kIn, ?_⟩
      rw [k2]
      exact run_fnSK F hr hb (hx σ) I2 r rz l1 l2 q2
    · rw [k3, Bool.or_false]
      exact noStars (es := e :: es) (by unfold allPlain; rw [List.all_cons, hp.1, hp.2] <;> rfl)
theorem pe_callSK0 {E : L2.St → XK} {k : Nat} {f : Addr} {fd : FuncData} {ps ks : List Str} {sp : Sp} {pm : List Nat} {x : Str} {p pos : Pos} {kws : List Keyword} {tk : TA} (F : FnOk X.prog X.w X.K X.mg X.base (L2.CX X.prog X.w) k f fd ps sp) (hr : Room k X.A) (hg : Gl X x) (hm : X.mg x = some (.ref f)) (hk : PySem.W.keepIn X.K (.ref f) = true) (hb : KwB fd ps 0 ks pm) (hx : ∀ σ, PassesAt (L2.CX X.prog X.w) X σ (E σ))
    (hkw : PK X kws tk) (hks : kws.map Keyword.arg = ks.map some) (hdb : (x == ("__debug__" : Str)) = false) : PE X (.Call (.Name x p) [] kws pos) (tCallSK 0 ks.length pm sp E tNil tk) := by
  obtain ⟨k1, k2, k3⟩ := kwOk (pos := pos) (env := X.env) hks
  refine ⟨fun pins s σ H Q I h => ?_⟩
  refine wpAny_Call_Name_kw (ld_glob I hg hm ?_ hdb)
  refine PySem.W.callWith_KW0 (h₀ := X.base) I.ok.mod.kin hk k1 ?_ (by rw [k3] <;> rfl)
  have h : tk σ H fun zs H2 => ([] : List V).length = 0 ∧ zs.length = ks.length ∧ sp (kperm pm ([] ++ zs)) H2 Q (E σ) := h
  refine thn (hkw.run pos pins s σ H _ I h) fun ws s2 ⟨zs, H2, I2, rz, l1, l2, q2⟩ => ⟨I2.kIn, ?_⟩
  rw [k2]
  exact run_fnSK F hr hb (hx σ) I2 .nil rz l1 l2 q2
theorem PK.imp {kws : List Keyword} {t u : TA} (h : PK X kws t) (i : ∀ σ H Q, u σ H Q → t σ H Q) : PK X kws u := ⟨fun pos pins s σ H Q I q => h.run pos pins s σ H Q I (i σ H Q q)⟩
theorem spk_nil {m : Mo} : PK X [] (liftA bo H0 cs W m fun _ b => .ok (.list []) b) := PK.imp pk_nil fun σ H Q ⟨e, b, F, p, h⟩ => h [] F H (Ext.refl p.sub) p.box .nil
theorem spk_cons {m : Mo} {ov fr : Bool} {nm : Option Str} {kp : Pos} {e : Expr} {es : List Keyword} {ga gs : Env → Bx → R P} (ha : Snd X bo H0 cs W ov fr e ga) (hm : m = .n → ov = false) (hs : PK X es (liftA bo H0 cs W m gs)) :
    PK X (⟨nm, e, kp⟩ :: es) (liftA bo H0 cs W m fun e b => (ga e b).bind fun d b1 => (gs e b1).bind fun ds b2 => .ok (.list (d :: argsOf ds)) b2) :=
  PK.imp (pk_cons (ha.m m hm) hs) fun σ H Q ⟨e, b, F, p, h⟩ => ⟨e, b, F, p, finA_bind p h fun d b1 v F1 H1 p1 x1 r1 h1 => ⟨e, b1, F1, p1, finA_bindA p1 h1 fun ds b2 vs F2 H2 p2 x2 r2 h2 => h2 (v :: vs) F2 H2 (Ext.refl p2.sub) p2.box (.cons (RpM.mono x2 r1) r2)⟩⟩
theorem snd_callSK {ov fr : Bool} {x : Str} {np n : Nat} {ks : List Str} {pm : List Nat} {g : List P → Bx → R P} {es : List Expr} {kws : List Keyword} {p pos : Pos} {ga gk : Env → Bx → R P} (tk : Takes X W) (F : FnK X cs x fr np n ks pm g) (hg : Gl X x) (ha : PA X es (liftA bo H0 cs W .n ga)) (hkw : PK X kws (liftA bo H0 cs W .n gk)) (hks : kws.map Keyword.arg = ks.map some) (hdb : (x == ("__debug__" : Str)) = false)
    (hp : allPlain es = true) (hl1 : es.length = n) (hnil : es = [] → ga = fun _ b => .ok (.list []) b) (hlen : ∀ en b d b', ga en b = .ok d b' → (argsOf d).length = n) (hlen2 : ∀ en b d b', gk en b = .ok d b' → (argsOf d).length = ks.length) (hpm : pm.length = np) (hpb : pm.all (· < n + ks.length) = true) :
    Snd X bo H0 cs W ov fr (.Call (.Name x p) es kws pos) fun e b => (ga e b).bind fun ds b1 => (gk e b1).bind fun ds2 b2 => match g (kperm pm (argsOf ds ++ argsOf ds2)) b0 with
      | .ok d _ => .ok d b2
      | .ex c d _ => .ex c d b2
      | .no => .no := by
  obtain ⟨fa, fd, ps, k, hm, hk, F, hb, hr⟩ := F
  have key : ∀ {en : Env} {bq : Bx} {σ : L2.St} {H : Hp} {Q : VK} {F2 : Hp} {H2 : Hp} {ds ds2 : P} {b2 : Bx} {vs zs : List V}, Pre bo H0 σ H2 en b2 F2 → RpA F2 vs (argsOf ds) → RpA F2 zs (argsOf ds2) → (argsOf ds).length = n → (argsOf ds2).length = ks.length →
      fin bo cs W (lR fr bo) σ F2 H2 (match g (kperm pm (argsOf ds ++ argsOf ds2)) b0 with
        | .ok d _ => R.ok d b2
        | .ex c d _ => .ex c d b2
        | .no => .no) Q → spOf cs false fr np g (kperm pm (vs ++ zs)) H2 Q (WE W σ) := by
    intro en bq σ H Q F2 H2 ds ds2 b2 vs zs p2 ra rz l1 l2 h
    refine ⟨?_, none, F2, b0, _, _, (fun w => nomatch w), fun _ => ⟨rfl, rfl⟩, p2.sub, (fun β w => nomatch w), kperm_rp (ra.append rz) pm, none_in (F' := F2) (H' := H2) (b2 := b2) p2.box h⟩
    rw [← hpm]
    have hb' : ∀ i ∈ pm, i < (vs ++ zs).length := fun i hi => by
      have := of_decide_eq_true (List.all_eq_true.mp hpb i hi)
      rw [List.length_append, ra.length, rz.length, l1, l2]
      exact this
    clear h hpm hpb hb
    induction pm with
    | nil => rfl
    | cons i pm ih =>
      unfold kperm
      rw [List.filterMap_cons]
      have hi := hb' i List.mem_cons_self
      rw [List.getElem?_eq_getElem hi]
      exact congrArg (· + 1) (ih fun j hj => hb' j (List.mem_cons_of_mem _ hj))
  cases es with
  | nil =>
    have e0 := hnil rfl
    subst e0
    subst hl1
    refine Snd.of_R (PE.imp (pe_callSK0 F hr hg hm hk hb (fun σ => passAt tk σ) hkw hks hdb) fun σ H Q ⟨en, b, F, p, h⟩ => ?_) rfl
    show liftA bo H0 cs W .n gk σ H fun zs H2 => ([] : List V).length = 0 ∧ zs.length = ks.length ∧ spOf cs false fr np g (kperm pm ([] ++ zs)) H2 Q (WE W σ)
    have h : fin bo cs W (lR fr bo) σ F H ((gk en b).bind fun ds2 b2 => match g (kperm pm (argsOf (.list []) ++ argsOf ds2)) b0 with
      | .ok d _ => .ok d b2
      | .ex c d _ => .ex c d b2
      | .no => .no) Q := h
    refine ⟨en, b, F, p, ?_⟩
    have hl := hlen2 en b
    cases q : gk en b with
    | no => rw [q] at h; exact h
    | ex c d b1 => rw [q] at h; exact h
    | ok ds2 b1 =>
      rw [q] at h
      intro zs F1 H1 x z r
      have rz := Paired.rpA r
      have h1 := fin_step (Rl := lR fr bo) (fun F' H' v d => hRR H H1 F' H' v d) z x h
      exact ⟨rfl, by rw [rz.length, hl ds2 b1 q], key (en := en) (bq := b1) (H := H1) (ds := .list []) (p.step x z) .nil rz rfl (hl ds2 b1 q) h1⟩
  | cons e es =>
    refine Snd.of_R (PE.imp (pe_callSK F hr hg hm hk hb (fun σ => passAt tk σ) ha hkw hks hdb (by rw [hp] <;> rfl)) fun σ H Q ⟨en, b, F, p, h⟩ => ⟨en, b, F, p, ?_⟩) rfl
    have hl := hlen en b
    dsimp only at h
    cases q : ga en b with
    | no => rw [q] at h; exact h
    | ex c d b1 => rw [q] at h; exact h
    | ok ds b1 =>
      rw [q] at h
      intro vs F1 H1 x z r
      have ra := Paired.rpA r
      have p1 := p.step x z
      have h1 := fin_step (Rl := lR fr bo) (fun F' H' v d => hRR H H1 F' H' v d) z x h
      refine ⟨en, b1, F1, p1, ?_⟩
      have h1 : fin bo cs W (lR fr bo) σ F1 H1 ((gk en b1).bind fun ds2 b2 => match g (kperm pm (argsOf ds ++ argsOf ds2)) b0 with
        | .ok d _ => .ok d b2
        | .ex c d _ => .ex c d b2
        | .no => .no) Q := h1
      have hl2 := hlen2 en b1
      cases q2 : gk en b1 with
      | no => rw [q2] at h1; exact h1
      | ex c d b1 => rw [q2] at h1; exact h1
      | ok ds2 b2 =>
        rw [q2] at h1
        intro zs F2 H2 x2 z2 r2
        have rz := Paired.rpA r2
        have h2 := fin_step (Rl := lR fr bo) (fun F' H' v d => hRR H1 H2 F' H' v d) z2 x2 h1
        exact ⟨by rw [ra.length, hl ds b1 q], by rw [rz.length, hl2 ds2 b2 q2], key (en := en) (bq := b2) (H := H2) (p1.step x2 z2) (ra.mono x2.sf) rz (hl ds b1 q) (hl2 ds2 b2 q2) h2⟩
/-! ### x.strip(y) -/
theorem snd_strip {ov o1 f1 f2 fr : Bool} {e e2 : Expr} {pa pos : Pos} {g g2 : Env → Bx → R P} (he : Snd X bo H0 cs W o1 f1 e g) (h2 : Snd X bo H0 cs W false f2 e2 g2) (hst : notStar e2 = true) (hl : (pa.endLine == pos.line) = true) (hbase : attributeBase e "strip" X.env (eval e X.env) = eval e X.env) :
    Snd X bo H0 cs W ov fr (.Call (.Attribute e "strip" pa) [e2] [] pos) fun e b => (g e b).bind fun d b1 => if mOk .strip d then ((g2 e b1).bind fun d2 b2 => .ok (.list [d2]) b2).bind fun ds b2 => R.ofO (mthD .strip d (argsOf ds)) b2 else .no :=
  Snd.of_f (PE.imp (pe_bm PySem.F.plainAttrs_str PySem.F.slot_str_strip PySem.F.type_str_strip L2.mt_stripChars he.r (pa_cons (h2.n rfl) pa_nil (starEach_of hst)) hbase (by rw [starEach_of hst] <;> rfl) hl (starEach_of hst) (by rfl)) fun σ H Q ⟨e, b, F, p, h⟩ => ⟨e, b, F, p, fin_bind hRFf p h fun d b1 v F1 H1 p1 x1 r1 h1 => by
    cases d with
    | str a =>
      have ev := RpR.str (bo := bo) (H := H1) r1
      subst ev
      rw [if_pos (by rfl), bind_assoc] at h1
      refine ⟨rfl, e, b1, F1, p1, fin_bind hRFf p1 h1 fun d2 b2 w F2 H2 p2 x2 r2 h2 => ?_⟩
      cases d2 with
      | str c =>
        have h2 : fin bo cs W (lF bo) _ F2 H2 (R.ofO (if a.length ≤ line then some (.str (Txt.stripChars a c)) else none) b2) Q := h2
        split at h2
        · rename_i hl
          cases r2
          exact ⟨a, c, rfl, rfl, by rw [← line_eq]; exact hl, h2 _ F2 H2 (Ext.refl p2.sub) p2.box (Flt.str _).fr⟩
        · exact h2.elim
      | _ => exact h2.elim
    | _ => exact h1.elim⟩) rfl
/-! ### tuple(range(..)), list(range(..)) -/
theorem Snd.congr {ov fr : Bool} {e : Expr} {g g' : Env → Bx → R P} (h : Snd X bo H0 cs W ov fr e g) (q : ∀ en b, g en b = g' en b) : Snd X bo H0 cs W ov fr e g' := by
  have : g = g' := funext fun en => funext fun b => q en b
  rw [← this]
  exact h
theorem rg_rp {F : Hp} : ∀ {lo : Int} {n : Nat}, RpA F ((List.range n).map fun i => V.int (lo + (i : Nat))) (rngUp lo n)
  | _, 0 => .nil
  | lo, n + 1 => by
    rw [List.range_succ_eq_map, List.map_cons, List.map_map]
    have ih := rg_rp (F := F) (lo := lo + 1) (n := n)
    have e : ((fun i : Nat => V.int (lo + (i : Nat))) ∘ Nat.succ) = fun i : Nat => V.int (lo + 1 + (i : Nat)) := by
      funext i
      show V.int (lo + ((i + 1 : Nat) : Int)) = _
      congr 1
      omega
    rw [e]
    refine .cons ?_ ih
    have : V.int (lo + ((0 : Nat) : Int)) = V.int lo := by simp
    rw [this]
    exact .int lo
def mkRg (tp : Bool) (xs : List P) : P := if tp then .tuple xs else .list xs
abbrev gRg (tp : Bool) (o : Option (List P)) (b : Bx) : R P := match o with
  | some xs => if xs.length ≤ line then .ok (mkRg tp xs) b else .no
  | none => .no
theorem rg_fin {tp : Bool} {σ : L2.St} {F H : Hp} {en : Env} {b : Bx} {Q : VK} {lo hi : Int} (p : Pre bo H0 σ H en b F) (i1 : int62 lo = true) (i2 : int62 hi = true) (h : fin bo cs W (lF bo) σ F H (gRg tp (some (rngUp lo (hi - lo).toNat)) b) Q) :
    RgOk lo hi ∧ ∀ q, H q = none → Q (.ref q) (upd H q (if tp then .tup (rgV lo hi) else .lst (rgV lo hi))) := by
  dsimp only [gRg] at h
  split at h
  · rename_i hl
    rw [rngUp_len] at hl
    obtain ⟨a1, a2⟩ := int62_iff i1
    obtain ⟨a3, a4⟩ := int62_iff i2
    refine ⟨⟨a1, a2, a3, a4, hl⟩, fun q hq => ?_⟩
    cases tp with
    | true =>
      obtain ⟨F2, m1, m2⟩ := made_tup (F := F) p.sub hq (rg_rp (lo := lo) (n := (hi - lo).toNat))
      exact h _ F2 _ m1.of_none (m1.box p.box) m2
    | false =>
      obtain ⟨m1, m2⟩ := made_lst (F := F) p.sub p.box hq (rg_rp (lo := lo) (n := (hi - lo).toNat))
      exact h _ F _ m1.of_none (m1.box p.box) m2
  · exact h.elim
theorem snd_rg1 {ov fr tp o1 f1 : Bool} {a : Expr} {p p2 pos pos2 : Pos} {g : Env → Bx → R P} (hc : X.calm = true) (hg : Gl X (if tp then "tuple" else "list")) (hm : X.mg (if tp then "tuple" else "list") = none) (hg2 : Gl X "range") (hm2 : X.mg "range" = none) (ha : Snd X bo H0 cs W o1 f1 a g) (hst : notStar a = true) :
    Snd X bo H0 cs W ov fr (.Call (.Name (if tp then "tuple" else "list") p) [.Call (.Name "range" p2) [a] [] pos2] [] pos) fun e b => (g e b).bind fun d b1 => gRg tp (rng1 [d]) b1 := by
  have rd : ∀ σ H Q, lift bo H0 cs W (lF bo) (fun e b => (g e b).bind fun d b1 => gRg tp (rng1 [d]) b1) σ H Q → tRg1 (lift bo H0 cs W (lM bo .r) g) σ H fun a b H1 => RgOk a b ∧ ∀ q, H1 q = none → Q (.ref q) (upd H1 q (if tp then .tup (rgV a b) else .lst (rgV a b))) := fun σ H Q ⟨e, b, F, p, h⟩ => ⟨e, b, F, p, fin_bind hRFf p h fun d b1 v F1 H1 p1 x1 r1 h1 => by
    cases d with
    | int j =>
      have h1 : fin bo cs W (lF bo) σ F1 H1 (gRg tp (if int62 j then some (rngUp 0 j.toNat) else none) b1) Q := h1
      split at h1
      · rename_i hj
        have e0 : (j - 0).toNat = j.toNat := by rw [Int.sub_zero]
        rw [← e0] at h1
        exact ⟨j, RpR.int (bo := bo) (H := H1) r1, rg_fin p1 (by decide) hj h1⟩
      · exact h1.elim
    | _ => exact h1.elim⟩
  cases tp with
  | true => exact Snd.of_f (PE.imp (pe_tupRg hc hg hm (prg_1 hg2 hm2 ha.r (starEach_of hst)) rfl) fun σ H Q h => rd σ H Q h) rfl
  | false => exact Snd.of_f (PE.imp (pe_listRg hc hg hm (prg_1 hg2 hm2 ha.r (starEach_of hst)) rfl) fun σ H Q h => rd σ H Q h) rfl
end
end Dv
/-! text DD -/
set_option Elab.async false
set_option linter.all false
set_option maxRecDepth 100000
set_option maxHeartbeats 4000000
namespace Dv
open PySem PySem.Spec L2

/-! ### what a def's text leans on -/
structure Ct where
  sc : Scope
  N : List Str
  /-- none: a def; some l: a block with these names -/
  blk : Option (List (Str × NameKind))
  bx : Bool
  blt : List Str
  con : List (Str × P)
  fns : List (Str × Bool × Bool × Nat)
  kws : List (Nat × Nat × List Str × List Nat)
def Ct.frs (c : Ct) (f : Nat) : Bool := match c.fns[f]? with
  | some q => q.2.2.1
  | none => false
def nmOk (c : Ct) (i : Nat) (x : Str) : Bool :=
  decide (c.N[i]? = some x) && (decide (c.sc.names.lookup x = some .local) || decide (c.sc.names.lookup x = some .cell) || decide (c.sc.names.lookup x = some .free)) && !(x == ("__debug__" : Str)) && !(x == ("__classdict__" : Str))
def glOk (c : Ct) (x : Str) : Bool := decide (c.sc.names.lookup x = some .globalImplicit) && !(x == ("__debug__" : Str))
def blOk (c : Ct) (x : Str) : Bool := glOk c x && c.blt.contains x
def locOk (c : Ct) (x : Str) : Bool := decide (c.sc.names.lookup x = some .local)
def fnOk (c : Ct) (x : Str) : Bool := match c.blk with
  | none => true
  | some l => l.lookup x == some .cell
/-- the i-th slot may be stored to by the name x -/
def tgOk (c : Ct) (i : Nat) (x : Str) : Bool :=
  decide (c.N[i]? = some x) && (locOk c x || (decide (c.sc.names.lookup x = some .cell) && fnOk c x)) && (!c.bx || i != 0)
def ovE : IE → Bool
  | .ovar _ => true
  | _ => false
def iterOnly : IE → Bool
  | .rng _ => true
  | .enm _ => true
  | .zip _ _ => true
  | _ => false
def needTup : IE → Bool
  | .enm _ => true
  | .zip _ _ => true
  | _ => false
def ovI : IE → Bool
  | .enm a => ovE a
  | .zip a b => ovE a || ovE b
  | .rng _ => false
  | ie => ovE ie
def frE (c : Ct) : IE → Bool
  | .cst _ => true
  | .glob _ => true
  | .bin _ _ _ => true
  | .neg _ => true
  | .not _ => true
  | .cmp _ _ _ => true
  | .chain _ _ _ _ _ => true
  | .chain3 _ _ _ _ _ _ _ => true
  | .bget _ => true
  | .tup _ => true
  | .lst _ => true
  | .slc _ _ _ => true
  | .rev _ => true
  | .lc _ _ _ _ _ => true
  | .bi _ _ => true
  | .isi _ _ => true
  | .mth _ _ _ => true
  | .trg _ => true
  | .lrg _ => true
  | .call f _ => c.frs f
  | .callK f _ _ _ => c.frs f
  | .callB f _ => c.frs f
  | .ite _ a b => frE c a && frE c b
  | _ => false
def opE : Op → Operator → Bool
  | .add, .Add => true
  | .sub, .Sub => true
  | .mul, .Mult => true
  | .fdiv, .FloorDiv => true
  | .mod, .Mod => true
  | .pow, .Pow => true
  | _, _ => false
def cpE : Cp → CmpOp → Bool
  | .eq, .Eq => true
  | .ne, .NotEq => true
  | .lt, .Lt => true
  | .le, .LtE => true
  | .gt, .Gt => true
  | .ge, .GtE => true
  | .is_, .Is => true
  | .isn, .IsNot => true
  | .in_, .In => true
  | .nin, .NotIn => true
  | _, _ => false
def cstE : P → Const → Bool
  | .none, .none => true
  | .bool a, .bool b => a == b
  | .int a, .int b => decide (a = b)
  | .str a, .str b => decide (a = b)
  | _, _ => false
def flatEq : P → P → Bool
  | .none, .none => true
  | .bool a, .bool b => a == b
  | .int a, .int b => decide (a = b)
  | .str a, .str b => decide (a = b)
  | _, _ => false
def biName : Bi → Option Str
  | .len => some "len"
  | .abs => some "abs"
  | .int_ => some "int"
  | .bool_ => some "bool"
  | .tuple_ => some "tuple"
  | .list_ => some "list"
  | .sum => some "sum"
  | .max => some "max"
  | .min => some "min"
  | .all => some "all"
  | .any => some "any"
  | _ => none
def tyN : Ty → Option Str
  | .int_ => some "int"
  | .str_ => some "str"
  | .bool_ => some "bool"
  | .tuple_ => some "tuple"
  | .list_ => some "list"
  | _ => none
def isNil : IE → Bool
  | .nil => true
  | _ => false
def isTup : Expr → Bool
  | .Tuple _ _ _ => true
  | _ => false
def isYes : IE → Bool
  | .cst (.bool true) => true
  | _ => false
def isEmptyE : List Expr → Bool
  | [] => true
  | _ => false
/-- the block of a comprehension -/
def relC (scope sc : Scope) : Scope := { scope with names := scope.names.map fun (n, k) => if (k == .free && sc.kind == .function && sc.names.lookup n == some .cell) then (n, .cell) else (n, k) }
def Ct.inBlk (c : Ct) (scope : Scope) : Ct := { c with sc := relC scope c.sc, blk := some scope.names }
def ownOf (c : Ct) (own : List Nat) : List (Str × Nat) := own.filterMap fun i => (c.N[i]?).map fun x => (x, i)
def blkOk (c : Ct) (scope : Scope) (own : List Nat) : Bool :=
  decide (scope.kind = .function) && scope.names.all (fun y => decide (scope.names.lookup y.1 = some y.2)) && decide ((ownOf c own).length = own.length) &&
  scope.names.all (fun y => !decide (y.2 = .free) || decide (c.sc.names.lookup y.1 = some .cell) || decide (c.sc.names.lookup y.1 = some .free)) &&
  scope.names.all (fun y => !(decide (y.2 = .local) || decide (y.2 = .cell)) || ((ownOf c own).map (·.1)).contains y.1 || !c.N.contains y.1) && (!c.bx || !own.contains 0)
/-- a form whose method is asked of its value -/
def plainBase : Expr → Bool
  | .Name _ _ => true
  | .Subscript _ _ _ => true
  | _ => false
def oB {α : Type} (o : Option α) (n : Bool) (f : α → Bool) : Bool := match o with
  | none => n
  | some a => f a
/-- the tests of a clause: none, or one -/
def ifsB (fs : List Expr) (n : Bool) (f : Expr → Bool) : Bool := match fs with
  | [] => n
  | [e] => f e
  | _ => false
mutual
def okT : Tg → Ct → Expr → Bool
  | .nm i, c, e => match e with
    | .Name x _ => tgOk c i x
    | _ => false
  | .tp t, c, e => match e with
    | .Tuple es _ _ => okTs t c es && allPlain es
    | _ => false
  | _, _, _ => false
termination_by structural t => t
def okTs : Tg → Ct → List Expr → Bool
  | .nil, _, es => isEmptyE es
  | .cons a b, c, es => match es with
    | e :: es => notStar e && okT a c e && okTs b c es
    | _ => false
  | _, _, _ => false
termination_by structural t => t
end
mutual
def okE : IE → Ct → Expr → Bool
  | .var i, c, e => match e with
    | .Name x _ => nmOk c i x
    | _ => false
  | .ovar i, c, e => match e with
    | .Name x _ => nmOk c i x
    | _ => false
  | .cst d, c, e => match e with
    | .Constant k _ _ => cstE d k
    | _ => false
  | .glob d, c, e => match e with
    | .Name x _ => glOk c x && c.con.any fun q => decide (q.1 = x) && flatEq q.2 d
    | _ => false
  | .bin op a b, c, e => match e with
    | .BinOp l o r _ => opE op o && okE a c l && !iterOnly a && okE b c r && !iterOnly b
    | _ => false
  | .neg a, c, e => match e with
    | .UnaryOp .USub l _ => okE a c l && !iterOnly a
    | _ => false
  | .not a, c, e => match e with
    | .UnaryOp .Not l _ => okE a c l && !iterOnly a
    | _ => false
  | .cmp op a b, c, e => match e with
    | .Compare l [o] [r] _ => cpE op o && okE a c l && !iterOnly a && okE b c r && !iterOnly b && notSet r
    | _ => false
  | .chain o1 o2 a b d, c, e => match e with
    | .Compare l [p1, p2] [r, t] _ => cpE o1 p1 && cpE o2 p2 && okE a c l && !iterOnly a && okE b c r && !iterOnly b && okE d c t && !iterOnly d && notSet t
    | _ => false
  | .chain3 o1 o2 o3 a b d g, c, e => match e with
    | .Compare l [p1, p2, p3] [r, t, u] _ => cpE o1 p1 && cpE o2 p2 && cpE o3 p3 && okE a c l && !iterOnly a && okE b c r && !iterOnly b && okE d c t && !iterOnly d && okE g c u && !iterOnly g && notSet u
    | _ => false
  | .bget j, c, e => match e with
    | .Subscript (.Name y _) (.Constant (.int i) _ _) _ => c.bx && nmOk c 0 y && decide (i = (j : Int))
    | _ => false
  | .and a b, c, e => match e with
    | .BoolOp .And (x :: y :: []) _ => okE a c x && !iterOnly a && !ovE a && okE b c y && !iterOnly b && !ovE b
    | .BoolOp .And (x :: y :: z :: r) p => okE a c x && !iterOnly a && !ovE a && okE b c (.BoolOp .And (y :: z :: r) p) && !iterOnly b
    | _ => false
  | .or a b, c, e => match e with
    | .BoolOp .Or (x :: y :: []) _ => okE a c x && !iterOnly a && !ovE a && okE b c y && !iterOnly b && !ovE b
    | .BoolOp .Or (x :: y :: z :: r) p => okE a c x && !iterOnly a && !ovE a && okE b c (.BoolOp .Or (y :: z :: r) p) && !iterOnly b
    | _ => false
  | .ite t a b, c, e => match e with
    | .IfExp x y z _ => okE t c x && !iterOnly t && okE a c y && !iterOnly a && !ovE a && okE b c z && !iterOnly b && !ovE b
    | _ => false
  | .tup as, c, e => match e with
    | .Tuple es _ _ => okA as c true es
    | _ => false
  | .lst as, c, e => match e with
    | .List es _ => okA as c true es
    | _ => false
  | .idx a i, c, e => match e with
    | .Subscript x y _ => okE a c x && !iterOnly a && okE i c y && !iterOnly i && notSlice y
    | _ => false
  | .slc a lo hi, c, e => match e with
    | .Subscript x (.Slice l h none _) _ => okE a c x && !iterOnly a && oB l (isNil lo) (fun l => !isNil lo && okE lo c l && !iterOnly lo) && oB h (isNil hi) (fun l => !isNil hi && okE hi c l && !iterOnly hi)
    | _ => false
  | .rev a, c, e => match e with
    | .Subscript x (.Slice none none (some (.UnaryOp .USub (.Constant (.int 1) _ _) _)) _) _ => okE a c x && !iterOnly a
    | _ => false
  | .lc own elt tg it ifs, c, e => match e with
    | .ListComp x [⟨t, i, fs, 0⟩] scope _ => blkOk c scope own && okE it c i && notSet i && (!needTup it || isTup t) && okT tg (c.inBlk scope) t && (tgIx tg).all own.contains &&
      ifsB fs (isYes ifs) (fun f => okE ifs (c.inBlk scope) f && !iterOnly ifs) && okE elt (c.inBlk scope) x && !iterOnly elt && !ovE elt
    | _ => false
  | .call f as, c, e => match e with
    | .Call (.Name x _) es [] _ => oB c.fns[f]? false (fun q => decide (q.1 = x) && !q.2.1 && decide (es.length = q.2.2.2)) && glOk c x && allPlain es && okA as c true es
    | _ => false
  | .callK f pm as ks, c, e => match e with
    | .Call (.Name x _) es kws _ => oB c.fns[f]? false (fun q => decide (q.1 = x) && decide (pm.length = q.2.2.2) && c.kws.any fun k => decide (k.1 = f) && decide (k.2.1 = es.length) && decide (kws.map Keyword.arg = k.2.2.1.map some) && decide (k.2.2.2 = pm) && pm.all (· < es.length + k.2.2.1.length)) && glOk c x && allPlain es && okA as c true es && okK ks c kws
    | _ => false
  | .callB f as, c, e => match e with
    | .Call (.Name x _) (.Name y _ :: es) [] _ => oB c.fns[f]? false (fun q => decide (q.1 = x) && q.2.1 && decide (es.length + 1 = q.2.2.2)) && glOk c x && c.bx && nmOk c 0 y && allPlain es && okA as c true es
    | _ => false
  | .callX f a as, c, e => match e with
    | .Call (.Name x _) (y :: es) [] _ => oB c.fns[f]? false (fun q => decide (q.1 = x) && q.2.1 && !q.2.2.1 && decide (es.length + 1 = q.2.2.2)) && glOk c x && okE a c y && !iterOnly a && frE c a && notStar y && allPlain es && okA as c true es
    | _ => false
  | .bi p as, c, e => match e with
    | .Call (.Name x _) es [] _ => decide (biName p = some x) && blOk c x && !isEmptyE es && allPlain es && okA as c false es
    | _ => false
  | .isi t a, c, e => match e with
    | .Call (.Name x _) [y, .Name z _] [] _ => decide (x = "isinstance") && blOk c x && decide (tyN t = some z) && blOk c z && okE a c y && !iterOnly a && notStar y
    | .Call (.Name x _) [y, .Tuple [.Name z _, .Name u _] _ _] [] _ => decide (x = "isinstance") && blOk c x && (match t with
      | .seq_ => (decide (z = "list") && decide (u = "tuple")) || (decide (z = "tuple") && decide (u = "list"))
      | .numstr => decide (z = "bool") && decide (u = "str")
      | _ => false) && blOk c z && blOk c u && okE a c y && !iterOnly a && notStar y
    | _ => false
  | .mth m a as, c, e => match e with
    | .Call (.Attribute x n pa) [y] [] pos => (match m, as with
      | .strip, .cons b .nil => decide (n = "strip") && okE a c x && !iterOnly a && okE b c y && !iterOnly b && !ovE b && notStar y && (pa.endLine == pos.line) && plainBase x
      | _, _ => false)
    | _ => false
  | .trg as, c, e => match as with
    | .cons a .nil => (match e with
      | .Call (.Name x _) [.Call (.Name y _) [z] [] _] [] _ => decide (x = "tuple") && blOk c x && decide (y = "range") && blOk c y && notStar z && okE a c z && !iterOnly a
      | _ => false)
    | _ => false
  | .lrg as, c, e => match as with
    | .cons a .nil => (match e with
      | .Call (.Name x _) [.Call (.Name y _) [z] [] _] [] _ => decide (x = "list") && blOk c x && decide (y = "range") && blOk c y && notStar z && okE a c z && !iterOnly a
      | _ => false)
    | _ => false
  | .rng as, c, e => match e with
    | .Call (.Name x _) es [] _ => decide (x = "range") && blOk c x && allPlain es && !isEmptyE es && okA as c false es && decide (es.length ≤ 3)
    | _ => false
  | .enm a, c, e => match e with
    | .Call (.Name x _) [y] [] _ => decide (x = "enumerate") && blOk c x && notStar y && okE a c y && !iterOnly a
    | _ => false
  | .zip a b, c, e => match e with
    | .Call (.Name x _) [y, z] [] _ => decide (x = "zip") && blOk c x && notStar y && notStar z && okE a c y && !iterOnly a && okE b c z && !iterOnly b
    | _ => false
  | _, _, _ => false
termination_by structural ie => ie
/-- an argument list; m: each a value that may be kept -/
def okA : IE → Ct → Bool → List Expr → Bool
  | .nil, c, m, es => isEmptyE es
  | .cons a as, c, m, es => match es with
    | e :: es => notStar e && okE a c e && !iterOnly a && (!m || !ovE a) && okA as c m es
    | _ => false
  | .star a as, c, m, es => match es with
    | .Starred e _ :: es => m && okE a c e && !iterOnly a && okA as c m es
    | _ => false
  | _, _, _, _ => false
termination_by structural ie => ie
def okK : IE → Ct → List Keyword → Bool
  | .nil, c, ks => match ks with
    | [] => true
    | _ => false
  | .cons a as, c, ks => match ks with
    | ⟨_, e, _⟩ :: ks => okE a c e && !iterOnly a && !ovE a && okK as c ks
    | _ => false
  | _, _, _ => false
termination_by structural ie => ie
end
end Dv
/-! text DE -/
set_option Elab.async false
set_option linter.all false
set_option maxRecDepth 100000
set_option maxHeartbeats 4000000
namespace Dv
open PySem PySem.Spec L2

structure Cok (c : Ct) (X : Cx) (bo : Option Addr) (cs : Cls') (W : WX) (φ : Phi) : Prop where
  calm : X.calm = true
  N : X.N = c.N
  nd : X.N.Nodup
  sc : X.env.scope = c.sc
  fn : ∀ x, X.fn x = fnOk c x
  bx : c.bx = true ↔ bo ≠ none
  hu : X.A.units + 70 < cLine
  blt : ∀ x ∈ c.blt, X.mg x = none
  con : ∀ q ∈ c.con, ∃ v u, X.mg q.1 = some u ∧ RelV v u ∧ Flt v q.2
  fns : ∀ f q, c.fns[f]? = some q → FnAt X cs q.1 q.2.1 q.2.2.1 q.2.2.2 (φ f)
  kws : ∀ k ∈ c.kws, ∀ q, c.fns[k.1]? = some q → FnK X cs q.1 q.2.2.1 q.2.2.2 k.2.1 k.2.2.1 k.2.2.2 (φ k.1)
  tk : Takes X W
section
variable {c : Ct} {X : Cx} {bo : Option Addr} {H0 : Hp} {cs : Cls'} {W : WX} {φ : Phi}
theorem Cok.inBlk (k : Cok c X bo cs W φ) (s : Shared) (H : Hp) (scope : Scope) (C : Addr) (cl : List (Str × Addr)) (fp : List Addr) : Cok (c.inBlk scope) (X.blk s H scope (compEnvC scope cl C X.env) fp) bo cs W0 φ where
  calm := k.calm
  N := k.N
  nd := k.nd
  sc := by
    show relabel scope X.env = relC scope c.sc
    unfold relabel relC
    rw [← k.sc]
    rfl
  fn := fun x => rfl
  bx := k.bx
  hu := k.hu
  blt := k.blt
  con := k.con
  fns := k.fns
  kws := k.kws
  tk := takes0
theorem nm_of (k : Cok c X bo cs W φ) {i : Nat} {x : Str} (h : nmOk c i x = true) : NmOk X i x := by
  unfold nmOk at h
  simp only [Bool.and_eq_true, Bool.or_eq_true, decide_eq_true_eq, Bool.not_eq_true'] at h
  obtain ⟨⟨⟨h1, h2⟩, h3⟩, h4⟩ := h
  refine ⟨by rw [k.N]; exact h1, ?_, h3, h4⟩
  show X.env.scope.names.lookup x = some .local ∨ X.env.scope.names.lookup x = some .cell ∨ X.env.scope.names.lookup x = some .free
  rw [k.sc]
  rcases h2 with (h2 | h2) | h2
  · exact .inl h2
  · exact .inr (.inl h2)
  · exact .inr (.inr h2)
theorem gl_of (k : Cok c X bo cs W φ) {x : Str} (h : glOk c x = true) : Gl X x ∧ (x == ("__debug__" : Str)) = false := by
  unfold glOk at h
  simp only [Bool.and_eq_true, decide_eq_true_eq, Bool.not_eq_true'] at h
  refine ⟨?_, h.2⟩
  show X.env.scope.names.lookup x = some .globalImplicit
  rw [k.sc]
  exact h.1
theorem bl_of (k : Cok c X bo cs W φ) {x : Str} (h : blOk c x = true) : Gl X x ∧ X.mg x = none := by
  unfold blOk at h
  rw [Bool.and_eq_true] at h
  exact ⟨(gl_of k h.1).1, k.blt x (by simpa using h.2)⟩
theorem cst_of {d : P} {k : Const} {j : Nat} {pos : Pos} (h : cstE d k = true) : ∃ v, Flt v d ∧ PE X (.Constant k j pos) (tC v) := by
  unfold cstE at h
  split at h
  · exact ⟨_, .non, pe_non⟩
  · rw [eq_of_beq h]
    exact ⟨_, .bl _, pe_bl⟩
  · rw [of_decide_eq_true h]
    exact ⟨_, .int _, pe_int⟩
  · rw [of_decide_eq_true h]
    exact ⟨_, .str _, pe_str⟩
  · cases h
theorem flat_of {a b : P} (h : flatEq a b = true) : a = b := by
  unfold flatEq at h
  split at h
  · rfl
  · rw [eq_of_beq h]
  · rw [of_decide_eq_true h]
  · rw [of_decide_eq_true h]
  · cases h
theorem op_of {op : Op} {o : Operator} (h : opE op o = true) : OpR X (binaryOp o) (rD bo (lF bo) (binD op)) := by
  cases op <;> cases o <;> first
    | cases h; done
    | exact op_addD
    | exact op_subD
    | exact op_mulD
    | exact op_fdivD
    | exact op_modD
    | exact op_powD
theorem cp_of (hu : X.A.units + 70 < cLine) {op : Cp} {o : CmpOp} (h : cpE op o = true) : OpR X (compareOp o) (rB bo (cmpD op)) := by
  have h1 : X.A.units + 64 < cLine := by omega
  have h2 : X.A.units + 65 < cLine := by omega
  cases op <;> cases o <;> first
    | cases h; done
    | exact op_eqDD h1
    | exact op_neDD h1
    | exact op_ltDD h1
    | exact op_leDD h1
    | exact op_gtDD h1
    | exact op_geDD h1
    | exact op_isDD
    | exact op_isnDD
    | exact op_inDD h2
    | exact op_ninDD h2
theorem tg_of (k : Cok c X bo cs W φ) {i : Nat} {x : Str} {pos : Pos} (h : tgOk c i x = true) : PG X (.Name x pos) (liftG bo H0 (.nm i)) := by
  unfold tgOk at h
  simp only [Bool.and_eq_true, Bool.or_eq_true, decide_eq_true_eq, Bool.not_eq_true', locOk] at h
  obtain ⟨⟨h1, h2⟩, h3⟩ := h
  refine spg_name k.nd (by rw [k.N]; exact h1) ?_ ?_ ?_
  · rcases h2 with h2 | h2
    · exact .inl (by rw [k.sc]; exact h2)
    · exact .inr (by rw [k.sc]; exact h2.1)
  · rcases h2 with h2 | h2
    · exact .inr (by rw [k.sc]; exact h2)
    · exact .inl (by rw [k.fn]; exact h2.2)
  · intro hb
    rcases h3 with h3 | h3
    · exact absurd (k.bx.mpr hb) (by rw [h3]; decide)
    · simpa using h3
theorem okTs_len : ∀ {t : Tg} {c : Ct} {es : List Expr} {ds : List P} {e e' : Env}, okTs t c es = true → asgn t (.list ds) e = some e' → ds.length = es.length
  | .nil, c, es, ds, e, e', h, q => by
    cases es with
    | nil =>
      cases ds with
      | nil => rfl
      | cons d ds => cases q
    | cons x es => cases h
  | .cons a b, c, es, ds, e, e', h, q => by
    cases es with
    | nil => cases h
    | cons x es =>
      have h : (notStar x && okT a c x && okTs b c es) = true := h
      rw [Bool.and_eq_true] at h
      cases ds with
      | nil => cases q
      | cons d ds =>
        have q : (match asgn a d e with | some e1 => asgn b (.list ds) e1 | none => none) = some e' := q
        split at q
        · exact congrArg (· + 1) (okTs_len (t := b) h.2 q)
        · cases q
  | .nm _, _, _, _, _, _, h, _ => by cases h
  | .tp _, _, _, _, _, _, h, _ => by cases h
mutual
theorem okT_sound : ∀ {t : Tg} {c : Ct} {X : Cx} {e : Expr} {W : WX}, Cok c X bo cs W φ → okT t c e = true → PG X e (liftG bo H0 t)
  | .nm i, c, X, e, W, k, h => by
    cases e with
    | Name x p => exact tg_of k h
    | _ => cases h
  | .tp t, c, X, e, W, k, h => by
    cases e with
    | Tuple es j p =>
      have h : (okTs t c es && allPlain es) = true := h
      rw [Bool.and_eq_true] at h
      exact spg_tup k.calm (okTs_sound k h.1) (fun ds e e' q => okTs_len h.1 q) h.2
    | _ => cases h
  | .nil, c, X, e, W, k, h => by cases h
  | .cons _ _, c, X, e, W, k, h => by cases h
theorem okTs_sound : ∀ {t : Tg} {c : Ct} {X : Cx} {es : List Expr} {W : WX}, Cok c X bo cs W φ → okTs t c es = true → PGs X es (liftGs bo H0 t)
  | .nil, c, X, es, W, k, h => by
    cases es with
    | nil => exact spgs_nil
    | cons x es => cases h
  | .cons a b, c, X, es, W, k, h => by
    cases es with
    | nil => cases h
    | cons x es =>
      have h : (notStar x && okT a c x && okTs b c es) = true := h
      simp only [Bool.and_eq_true] at h
      exact spgs_cons (okT_sound k h.1.2) (okTs_sound k h.2) h.1.1
  | .nm _, c, X, e, W, k, h => by cases h
  | .tp _, c, X, e, W, k, h => by cases h
end
theorem ownOf_map (k : Cok c X bo cs W φ) {own : List Nat} (h : (ownOf c own).length = own.length) : (ownOf c own).map (·.2) = own ∧ ∀ p ∈ ownOf c own, X.N[p.2]? = some p.1 := by
  constructor
  · clear k
    induction own with
    | nil => rfl
    | cons i own ih =>
      unfold ownOf at h ⊢
      rw [List.filterMap_cons] at h ⊢
      cases q : c.N[i]? with
      | none =>
        rw [q] at h
        have h : (ownOf c own).length = own.length + 1 := h
        have := List.length_filterMap_le (fun i => (c.N[i]?).map fun x => (x, i)) own
        unfold ownOf at h
        omega
      | some x =>
        rw [q] at h
        have h : (ownOf c own).length + 1 = own.length + 1 := h
        show i :: (ownOf c own).map (·.2) = i :: own
        rw [ih (by omega)]
  · intro p hp
    unfold ownOf at hp
    obtain ⟨i, hi, e⟩ := List.mem_filterMap.mp hp
    cases q : c.N[i]? with
    | none => rw [q] at e; cases e
    | some x =>
      rw [q] at e
      cases e
      rw [k.N]
      exact q
theorem blk_of (k : Cok c X bo cs W φ) {scope : Scope} {own : List Nat} (h : blkOk c scope own = true) : BlkOk X.N X.env.scope scope (ownOf c own) ∧ (ownOf c own).map (·.2) = own ∧ (bo ≠ none → 0 ∉ own) := by
  unfold blkOk at h
  simp only [Bool.and_eq_true, decide_eq_true_eq, List.all_eq_true] at h
  obtain ⟨⟨⟨⟨⟨h1, h2⟩, h3⟩, h4⟩, h5⟩, h6⟩ := h
  obtain ⟨m1, m2⟩ := ownOf_map k h3
  refine ⟨⟨h1, h2, m2, fun y hy he => ?_, fun y hy he => ?_⟩, m1, fun hb hm => ?_⟩
  · have q := h4 y hy
    simp only [Bool.or_eq_true, Bool.not_eq_true', decide_eq_false_iff_not, decide_eq_true_eq] at q
    rw [k.sc]
    rcases q with (q | q) | q
    · exact absurd he q
    · exact .inl q
    · exact .inr q
  · have q := h5 y hy
    simp only [Bool.or_eq_true, Bool.not_eq_true', Bool.or_eq_false_iff, decide_eq_false_iff_not] at q
    rw [k.N]
    rcases q with (q | q) | q
    · rcases he with he | he
      · exact absurd he q.1
      · exact absurd he q.2
    · exact .inl (by simpa using q)
    · exact .inr (by simpa using q)
  · simp only [Bool.or_eq_true, Bool.not_eq_true'] at h6
    rcases h6 with h6 | h6
    · exact absurd (k.bx.mpr hb) (by rw [h6]; decide)
    · exact absurd hm (by simpa using h6)
end
end Dv
/-! text DF -/
set_option Elab.async false
set_option linter.all false
set_option maxRecDepth 100000
set_option maxHeartbeats 4000000
namespace Dv
open PySem PySem.Spec L2
section
variable {bo : Option Addr} {cs : Cls'} {φ : Phi}
def mo (m : Bool) : Mo := if m then .n else .r
def SA (bo : Option Addr) (cs : Cls') (φ : Phi) (ie : IE) : Prop := ∀ {c : Ct} {X : Cx} {H0 : Hp} {W : WX} {e : Expr}, Cok c X bo cs W φ → okE ie c e = true → iterOnly ie = false →
  Snd X bo H0 cs W (ovE ie) (frE c ie) e (ev φ ie) ∧ ∀ op es pos, e = .BoolOp op es pos → SndB X bo H0 cs W op es pos (ev φ ie)
def SB (bo : Option Addr) (cs : Cls') (φ : Phi) (ie : IE) : Prop := ∀ {c : Ct} {X : Cx} {H0 : Hp} {W : WX} {m : Bool} {es : List Expr}, Cok c X bo cs W φ → okA ie c m es = true →
  PA X es (liftA bo H0 cs W (mo m) (ev φ ie)) ∧ (allPlain es = true → ∀ en b d b', ev φ ie en b = .ok d b' → (argsOf d).length = es.length)
def SK (bo : Option Addr) (cs : Cls') (φ : Phi) (ie : IE) : Prop := ∀ {c : Ct} {X : Cx} {H0 : Hp} {W : WX} {kws : List Keyword}, Cok c X bo cs W φ → okK ie c kws = true →
  PK X kws (liftA bo H0 cs W .n (ev φ ie)) ∧ ∀ en b d b', ev φ ie en b = .ok d b' → (argsOf d).length = kws.length
def SC (bo : Option Addr) (cs : Cls') (φ : Phi) (ie : IE) : Prop := ∀ {c : Ct} {X : Cx} {H0 : Hp} {W : WX} {e tg : Expr} {st : Bool}, Cok c X bo cs W φ → okE ie c e = true → iterOnly ie = true → (needTup ie = true → isTup tg = true) → (st = true → ovI ie = false) →
  PI X tg e (liftI bo H0 cs W st (ev φ ie))
structure SO (bo : Option Addr) (cs : Cls') (φ : Phi) (ie : IE) : Prop where
  a : SA bo cs φ ie
  b : SB bo cs φ ie
  k : SK bo cs φ ie
  c : SC bo cs φ ie
/-- a walk over what an expression gives -/
theorem SO.pi {ie : IE} (s : SO bo cs φ ie) {c : Ct} {X : Cx} {H0 : Hp} {W : WX} {e tg : Expr} {st : Bool} (k : Cok c X bo cs W φ) (h : okE ie c e = true) (ht : needTup ie = true → isTup tg = true) (hv : st = true → ovI ie = false) : PI X tg e (liftI bo H0 cs W st (ev φ ie)) := by
  cases q : iterOnly ie with
  | true => exact s.c k h q ht hv
  | false =>
    refine spi_val (s.a k h q).1 fun w => ?_
    have := hv w
    cases ie <;> first
      | exact this
      | cases q
theorem nb {e : Expr} {p : Prop} (h : ∀ op es pos, e ≠ .BoolOp op es pos) : ∀ op es pos, e = .BoolOp op es pos → p := fun op es pos z => absurd z (h op es pos)
/-- only values -/
theorem SO.val {ie : IE} (a : SA bo cs φ ie) (ho : iterOnly ie = false) (hb : ∀ c m es, okA ie c m es = false) (hk : ∀ c ks, okK ie c ks = false) : SO bo cs φ ie :=
  ⟨a, fun {_ _ _ _ _ _} _ h => by rw [hb] at h; (cases h), fun {_ _ _ _ _} _ h => by rw [hk] at h; (cases h), fun {_ _ _ _ _ _ _} _ _ z => by rw [ho] at z; (cases z)⟩
theorem so_var {i : Nat} : SO bo cs φ (.var i) := SO.val (fun {c X H0 W e} k h _ => by
  cases e with
  | Name x p =>
    have n := nm_of k (show nmOk c i x = true from h)
    exact ⟨snd_var n.hN n.hv n.hd n.hcd, fun _ _ _ z => nomatch z⟩
  | _ => cases h) rfl (fun _ _ _ => rfl) (fun _ _ => rfl)
theorem so_ovar {i : Nat} : SO bo cs φ (.ovar i) := SO.val (fun {c X H0 W e} k h _ => by
  cases e with
  | Name x p =>
    have n := nm_of k (show nmOk c i x = true from h)
    exact ⟨snd_ovar n.hN n.hv n.hd n.hcd, fun _ _ _ z => nomatch z⟩
  | _ => cases h) rfl (fun _ _ _ => rfl) (fun _ _ => rfl)
theorem so_cst {d : P} : SO bo cs φ (.cst d) := SO.val (fun {c X H0 W e} k h _ => by
  cases e with
  | Constant x j p =>
    obtain ⟨v, f, pe⟩ := cst_of (X := X) (j := j) (pos := p) (show cstE d x = true from h)
    exact ⟨snd_flat f pe rfl, fun _ _ _ z => nomatch z⟩
  | _ => cases h) rfl (fun _ _ _ => rfl) (fun _ _ => rfl)
theorem so_glob {d : P} : SO bo cs φ (.glob d) := SO.val (fun {c X H0 W e} k h _ => by
  cases e with
  | Name x p =>
    have h : (glOk c x && c.con.any fun q => decide (q.1 = x) && flatEq q.2 d) = true := h
    rw [Bool.and_eq_true, List.any_eq_true] at h
    obtain ⟨h1, q, hq, h2⟩ := h
    rw [Bool.and_eq_true, decide_eq_true_eq] at h2
    obtain ⟨v, u, e1, e2, e3⟩ := k.con q hq
    obtain ⟨g1, g2⟩ := gl_of k h1
    rw [h2.1] at e1
    rw [flat_of h2.2] at e3
    exact ⟨snd_flat e3 (pe_glob g1 e1 e2 g2) rfl, fun _ _ _ z => nomatch z⟩
  | _ => cases h) rfl (fun _ _ _ => rfl) (fun _ _ => rfl)
theorem so_bin {op : Op} {a b : IE} (sa : SO bo cs φ a) (sb : SO bo cs φ b) : SO bo cs φ (.bin op a b) := SO.val (fun {c X H0 W e} k h _ => by
  cases e with
  | BinOp l o r p =>
    have h : (opE op o && okE a c l && !iterOnly a && okE b c r && !iterOnly b) = true := h
    simp only [Bool.and_eq_true, Bool.not_eq_true'] at h
    obtain ⟨⟨⟨⟨h1, h2⟩, h3⟩, h4⟩, h5⟩ := h
    exact ⟨snd_bin (op_of h1) (sa.a k h2 h3).1 (sb.a k h4 h5).1, fun _ _ _ z => nomatch z⟩
  | _ => cases h) rfl (fun _ _ _ => rfl) (fun _ _ => rfl)
theorem so_neg {a : IE} (sa : SO bo cs φ a) : SO bo cs φ (.neg a) := SO.val (fun {c X H0 W e} k h _ => by
  cases e with
  | UnaryOp o l p =>
    cases o with
    | USub =>
      have h : (okE a c l && !iterOnly a) = true := h
      simp only [Bool.and_eq_true, Bool.not_eq_true'] at h
      exact ⟨snd_neg (sa.a k h.1 h.2).1, fun _ _ _ z => nomatch z⟩
    | _ => cases h
  | _ => cases h) rfl (fun _ _ _ => rfl) (fun _ _ => rfl)
theorem so_not {a : IE} (sa : SO bo cs φ a) : SO bo cs φ (.not a) := SO.val (fun {c X H0 W e} k h _ => by
  cases e with
  | UnaryOp o l p =>
    cases o with
    | Not =>
      have h : (okE a c l && !iterOnly a) = true := h
      simp only [Bool.and_eq_true, Bool.not_eq_true'] at h
      exact ⟨snd_not (sa.a k h.1 h.2).1, fun _ _ _ z => nomatch z⟩
    | _ => cases h
  | _ => cases h) rfl (fun _ _ _ => rfl) (fun _ _ => rfl)
theorem so_cmp {op : Cp} {a b : IE} (sa : SO bo cs φ a) (sb : SO bo cs φ b) : SO bo cs φ (.cmp op a b) := SO.val (fun {c X H0 W e} k h _ => by
  match e, h with
  | .Compare l [o] [r] p, h =>
    have h : (cpE op o && okE a c l && !iterOnly a && okE b c r && !iterOnly b && notSet r) = true := h
    simp only [Bool.and_eq_true, Bool.not_eq_true'] at h
    obtain ⟨⟨⟨⟨⟨h1, h2⟩, h3⟩, h4⟩, h5⟩, h6⟩ := h
    exact ⟨snd_cmp (cp_of k.hu h1) (sa.a k h2 h3).1 (sb.a k h4 h5).1 h6, fun _ _ _ z => nomatch z⟩) rfl (fun _ _ _ => rfl) (fun _ _ => rfl)
theorem so_chain {o1 o2 : Cp} {a b d : IE} (sa : SO bo cs φ a) (sb : SO bo cs φ b) (sd : SO bo cs φ d) : SO bo cs φ (.chain o1 o2 a b d) := SO.val (fun {c X H0 W e} k h _ => by
  match e, h with
  | .Compare l [p1, p2] [r, t] p, h =>
    have h : (cpE o1 p1 && cpE o2 p2 && okE a c l && !iterOnly a && okE b c r && !iterOnly b && okE d c t && !iterOnly d && notSet t) = true := h
    simp only [Bool.and_eq_true, Bool.not_eq_true'] at h
    obtain ⟨⟨⟨⟨⟨⟨⟨⟨h1, h2⟩, h3⟩, h4⟩, h5⟩, h6⟩, h7⟩, h8⟩, h9⟩ := h
    exact ⟨snd_chain (cp_of k.hu h1) (cp_of k.hu h2) (sa.a k h3 h4).1 (sb.a k h5 h6).1 (sd.a k h7 h8).1 h9, fun _ _ _ z => nomatch z⟩) rfl (fun _ _ _ => rfl) (fun _ _ => rfl)
theorem so_chain3 {o1 o2 o3 : Cp} {a b d g : IE} (sa : SO bo cs φ a) (sb : SO bo cs φ b) (sd : SO bo cs φ d) (sg : SO bo cs φ g) : SO bo cs φ (.chain3 o1 o2 o3 a b d g) := SO.val (fun {c X H0 W e} k h _ => by
  match e, h with
  | .Compare l [p1, p2, p3] [r, t, u] p, h =>
    have h : (cpE o1 p1 && cpE o2 p2 && cpE o3 p3 && okE a c l && !iterOnly a && okE b c r && !iterOnly b && okE d c t && !iterOnly d && okE g c u && !iterOnly g && notSet u) = true := h
    simp only [Bool.and_eq_true, Bool.not_eq_true'] at h
    obtain ⟨⟨⟨⟨⟨⟨⟨⟨⟨⟨⟨h1, h2⟩, h3⟩, h4⟩, h5⟩, h6⟩, h7⟩, h8⟩, h9⟩, h10⟩, h11⟩, h12⟩ := h
    exact ⟨snd_chain3 (cp_of k.hu h1) (cp_of k.hu h2) (cp_of k.hu h3) (sa.a k h4 h5).1 (sb.a k h6 h7).1 (sd.a k h8 h9).1 (sg.a k h10 h11).1 h12, fun _ _ _ z => nomatch z⟩) rfl (fun _ _ _ => rfl) (fun _ _ => rfl)
theorem so_bget {j : Nat} : SO bo cs φ (.bget j) := SO.val (fun {c X H0 W e} k h _ => by
  match e, h with
  | .Subscript (.Name y py) (.Constant (.int i) k2 p2) p, h =>
    have h : (c.bx && nmOk c 0 y && decide (i = (j : Int))) = true := h
    simp only [Bool.and_eq_true, decide_eq_true_eq] at h
    obtain ⟨⟨h1, h2⟩, h3⟩ := h
    subst h3
    exact ⟨snd_bget (k.bx.mp h1) (nm_of k h2), fun _ _ _ z => nomatch z⟩) rfl (fun _ _ _ => rfl) (fun _ _ => rfl)
theorem Snd.ovf {X : Cx} {H0 : Hp} {W : WX} {ie : IE} {fr : Bool} {e : Expr} {g : Env → Bx → R P} (h : Snd X bo H0 cs W (ovE ie) fr e g) (q : ovE ie = false) : Snd X bo H0 cs W false fr e g := by
  rw [q] at h
  exact h
theorem so_and {a b : IE} (sa : SO bo cs φ a) (sb : SO bo cs φ b) : SO bo cs φ (.and a b) := SO.val (fun {c X H0 W e} k h _ => by
  match e, h with
  | .BoolOp .And (x :: y :: []) p, h =>
    have h : (okE a c x && !iterOnly a && !ovE a && okE b c y && !iterOnly b && !ovE b) = true := h
    simp only [Bool.and_eq_true, Bool.not_eq_true'] at h
    obtain ⟨⟨⟨⟨⟨h1, h2⟩, h3⟩, h4⟩, h5⟩, h6⟩ := h
    have key : SndB X bo H0 cs W .And [x, y] p (ev φ (.and a b)) := sndB_and ((sa.a k h1 h2).1.ovf h3) (sndB_and1 ((sb.a k h4 h5).1.ovf h6))
    exact ⟨key.snd, fun op es pos z => by cases z; exact key⟩
  | .BoolOp .And (x :: y :: z :: r) p, h =>
    have h : (okE a c x && !iterOnly a && !ovE a && okE b c (.BoolOp .And (y :: z :: r) p) && !iterOnly b) = true := h
    simp only [Bool.and_eq_true, Bool.not_eq_true'] at h
    obtain ⟨⟨⟨⟨h1, h2⟩, h3⟩, h4⟩, h5⟩ := h
    have key : SndB X bo H0 cs W .And (x :: y :: z :: r) p (ev φ (.and a b)) := sndB_and ((sa.a k h1 h2).1.ovf h3) ((sb.a k h4 h5).2 _ _ _ rfl)
    exact ⟨key.snd, fun op es pos z => by cases z; exact key⟩) rfl (fun _ _ _ => rfl) (fun _ _ => rfl)
theorem so_or {a b : IE} (sa : SO bo cs φ a) (sb : SO bo cs φ b) : SO bo cs φ (.or a b) := SO.val (fun {c X H0 W e} k h _ => by
  match e, h with
  | .BoolOp .Or (x :: y :: []) p, h =>
    have h : (okE a c x && !iterOnly a && !ovE a && okE b c y && !iterOnly b && !ovE b) = true := h
    simp only [Bool.and_eq_true, Bool.not_eq_true'] at h
    obtain ⟨⟨⟨⟨⟨h1, h2⟩, h3⟩, h4⟩, h5⟩, h6⟩ := h
    have key : SndB X bo H0 cs W .Or [x, y] p (ev φ (.or a b)) := sndB_or ((sa.a k h1 h2).1.ovf h3) (sndB_or1 ((sb.a k h4 h5).1.ovf h6))
    exact ⟨key.snd, fun op es pos z => by cases z; exact key⟩
  | .BoolOp .Or (x :: y :: z :: r) p, h =>
    have h : (okE a c x && !iterOnly a && !ovE a && okE b c (.BoolOp .Or (y :: z :: r) p) && !iterOnly b) = true := h
    simp only [Bool.and_eq_true, Bool.not_eq_true'] at h
    obtain ⟨⟨⟨⟨h1, h2⟩, h3⟩, h4⟩, h5⟩ := h
    have key : SndB X bo H0 cs W .Or (x :: y :: z :: r) p (ev φ (.or a b)) := sndB_or ((sa.a k h1 h2).1.ovf h3) ((sb.a k h4 h5).2 _ _ _ rfl)
    exact ⟨key.snd, fun op es pos z => by cases z; exact key⟩) rfl (fun _ _ _ => rfl) (fun _ _ => rfl)
theorem so_ite {t a b : IE} (st : SO bo cs φ t) (sa : SO bo cs φ a) (sb : SO bo cs φ b) : SO bo cs φ (.ite t a b) := SO.val (fun {c X H0 W e} k h _ => by
  cases e with
  | IfExp x y z p =>
    have h : (okE t c x && !iterOnly t && okE a c y && !iterOnly a && !ovE a && okE b c z && !iterOnly b && !ovE b) = true := h
    simp only [Bool.and_eq_true, Bool.not_eq_true'] at h
    obtain ⟨⟨⟨⟨⟨⟨⟨h1, h2⟩, h3⟩, h4⟩, h5⟩, h6⟩, h7⟩, h8⟩ := h
    exact ⟨snd_ite (st.a k h1 h2).1 ((sa.a k h3 h4).1.ovf h5) ((sb.a k h6 h7).1.ovf h8), fun _ _ _ z => nomatch z⟩
  | _ => cases h) rfl (fun _ _ _ => rfl) (fun _ _ => rfl)
theorem so_nil : SO bo cs φ .nil := by
  refine ⟨?_, ?_, ?_, ?_⟩
  · intro c X H0 W e k h _
    cases h
  · intro c X H0 W m es k h
    cases es with
    | nil => exact ⟨spa_nil, fun _ en b d b' q => by cases q; rfl⟩
    | cons x es => cases h
  · intro c X H0 W kws k h
    cases kws with
    | nil => exact ⟨spk_nil, fun en b d b' q => by cases q; rfl⟩
    | cons x es => cases h
  · intro c X H0 W e tg st k h z
    cases z
theorem cons_len {a as : IE} {n : Nat} {en : Env} {b b' : Bx} {d : P} (hl : ∀ en b d b', ev φ as en b = .ok d b' → (argsOf d).length = n) (q : ev φ (.cons a as) en b = .ok d b') : (argsOf d).length = n + 1 := by
  have q : ((ev φ a en b).bind fun d b1 => (ev φ as en b1).bind fun ds b2 => R.ok (.list (d :: argsOf ds)) b2) = .ok d b' := q
  cases q1 : ev φ a en b with
  | no => rw [q1] at q; cases q
  | ex c d b => rw [q1] at q; cases q
  | ok d1 b1 =>
    rw [q1, bindR_ok] at q
    have hl1 := hl en b1
    cases q2 : ev φ as en b1 with
    | no => rw [q2] at q; cases q
    | ex c d b => rw [q2] at q; cases q
    | ok d2 b2 =>
      rw [q2] at q
      cases q
      exact congrArg (· + 1) (hl1 d2 _ q2)
theorem so_cons {a as : IE} (sa : SO bo cs φ a) (ss : SO bo cs φ as) : SO bo cs φ (.cons a as) := by
  refine ⟨?_, ?_, ?_, ?_⟩
  · intro c X H0 W e k h _
    cases h
  · intro c X H0 W m es k h
    cases es with
    | nil => cases h
    | cons e es =>
      have h : (notStar e && okE a c e && !iterOnly a && (!m || !ovE a) && okA as c m es) = true := h
      simp only [Bool.and_eq_true, Bool.not_eq_true', Bool.or_eq_true] at h
      obtain ⟨⟨⟨⟨h1, h2⟩, h3⟩, h4⟩, h5⟩ := h
      obtain ⟨p1, p2⟩ := ss.b (H0 := H0) k h5
      refine ⟨spa_cons (sa.a k h2 h3).1 (fun z => ?_) p1 h1, fun hp en b d b' q => cons_len (p2 ?_) q⟩
      · rcases h4 with h4 | h4
        · rw [h4] at z
          cases z
        · exact h4
      · unfold allPlain at hp
        rw [List.all_cons, Bool.and_eq_true] at hp
        exact hp.2
  · intro c X H0 W kws k h
    cases kws with
    | nil => cases h
    | cons e es =>
      obtain ⟨nm, e, kp⟩ := e
      have h : (okE a c e && !iterOnly a && !ovE a && okK as c es) = true := h
      simp only [Bool.and_eq_true, Bool.not_eq_true'] at h
      obtain ⟨⟨⟨h1, h2⟩, h3⟩, h4⟩ := h
      obtain ⟨p1, p2⟩ := ss.k (H0 := H0) k h4
      exact ⟨spk_cons (sa.a k h1 h2).1 (fun _ => h3) p1, fun en b d b' q => cons_len p2 q⟩
  · intro c X H0 W e tg st k h z
    cases z
theorem so_star {a as : IE} (sa : SO bo cs φ a) (ss : SO bo cs φ as) : SO bo cs φ (.star a as) := by
  refine ⟨?_, ?_, ?_, ?_⟩
  · intro c X H0 W e k h _
    cases h
  · intro c X H0 W m es k h
    match es, h with
    | .Starred e p :: es, h =>
      have h : (m && okE a c e && !iterOnly a && okA as c m es) = true := h
      simp only [Bool.and_eq_true, Bool.not_eq_true'] at h
      obtain ⟨⟨⟨h1, h2⟩, h3⟩, h4⟩ := h
      subst h1
      obtain ⟨p1, p2⟩ := ss.b (H0 := H0) k h4
      exact ⟨spa_star (sa.a k h2 h3).1 p1, fun hp => by cases hp⟩
  · intro c X H0 W kws k h
    cases h
  · intro c X H0 W e tg st k h z
    cases z
theorem so_tup {as : IE} (ss : SO bo cs φ as) : SO bo cs φ (.tup as) := SO.val (fun {c X H0 W e} k h _ => by
  cases e with
  | Tuple es j p => exact ⟨snd_tup (ss.b k (show okA as c true es = true from h)).1, fun _ _ _ z => nomatch z⟩
  | _ => cases h) rfl (fun _ _ _ => rfl) (fun _ _ => rfl)
theorem so_lst {as : IE} (ss : SO bo cs φ as) : SO bo cs φ (.lst as) := SO.val (fun {c X H0 W e} k h _ => by
  cases e with
  | List es p => exact ⟨snd_lst (ss.b k (show okA as c true es = true from h)).1, fun _ _ _ z => nomatch z⟩
  | _ => cases h) rfl (fun _ _ _ => rfl) (fun _ _ => rfl)
theorem so_idx {a i : IE} (sa : SO bo cs φ a) (si : SO bo cs φ i) : SO bo cs φ (.idx a i) := SO.val (fun {c X H0 W e} k h _ => by
  cases e with
  | Subscript x y p =>
    have h : (okE a c x && !iterOnly a && okE i c y && !iterOnly i && notSlice y) = true := h
    simp only [Bool.and_eq_true, Bool.not_eq_true'] at h
    obtain ⟨⟨⟨⟨h1, h2⟩, h3⟩, h4⟩, h5⟩ := h
    exact ⟨snd_idx (sa.a k h1 h2).1 (si.a k h3 h4).1 h5, fun _ _ _ z => nomatch z⟩
  | _ => cases h) rfl (fun _ _ _ => rfl) (fun _ _ => rfl)
theorem isNil_eq {ie : IE} (h : isNil ie = true) : ie = .nil := by
  cases ie <;> first
    | rfl
    | cases h
theorem so_slc {a lo hi : IE} (sa : SO bo cs φ a) (sl : SO bo cs φ lo) (sh : SO bo cs φ hi) : SO bo cs φ (.slc a lo hi) := SO.val (fun {c X H0 W e} k h _ => by
  match e, h with
  | .Subscript x (.Slice l hh none p2) pos, h =>
    have h : (okE a c x && !iterOnly a && oB l (isNil lo) (fun l => !isNil lo && okE lo c l && !iterOnly lo) && oB hh (isNil hi) (fun l => !isNil hi && okE hi c l && !iterOnly hi)) = true := h
    rw [Bool.and_eq_true, Bool.and_eq_true, Bool.and_eq_true, Bool.not_eq_true'] at h
    obtain ⟨⟨⟨h1, h2⟩, h3⟩, h4⟩ := h
    have part : ∀ {ie : IE} {o : Option Expr}, SO bo cs φ ie → oB o (isNil ie) (fun l => !isNil ie && okE ie c l && !iterOnly ie) = true →
        (o = none ∧ ie = .nil ∧ ev φ ie = fun _ b => .ok (.list []) b) ∨ ∃ le, o = some le ∧ (∃ o2 f2, Snd X bo H0 cs W o2 f2 le (ev φ ie)) ∧ ie ≠ .nil := fun {ie o} s q => by
      cases o with
      | none =>
        have e := isNil_eq q
        subst e
        exact .inl ⟨rfl, rfl, rfl⟩
      | some l =>
        have q : (!isNil ie && okE ie c l && !iterOnly ie) = true := q
        simp only [Bool.and_eq_true, Bool.not_eq_true'] at q
        exact .inr ⟨l, rfl, ⟨_, _, (s.a k q.1.2 q.2).1⟩, fun z => by rw [z] at q; exact absurd q.1.1 (by decide)⟩
    exact ⟨snd_slc (sa.a k h1 h2).1 (part sl h3) (part sh h4), fun _ _ _ z => nomatch z⟩) rfl (fun _ _ _ => rfl) (fun _ _ => rfl)
theorem so_rev {a : IE} (sa : SO bo cs φ a) : SO bo cs φ (.rev a) := SO.val (fun {c X H0 W e} k h _ => by
  match e, h with
  | .Subscript x (.Slice none none (some (.UnaryOp .USub (.Constant (.int 1) _ _) _)) _) _, h =>
    have h : (okE a c x && !iterOnly a) = true := h
    simp only [Bool.and_eq_true, Bool.not_eq_true'] at h
    exact ⟨snd_rev (sa.a k h.1 h.2).1, fun _ _ _ z => nomatch z⟩) rfl (fun _ _ _ => rfl) (fun _ _ => rfl)
end
end Dv
/-! text DG -/
set_option Elab.async false
set_option linter.all false
set_option maxRecDepth 100000
set_option maxHeartbeats 4000000
namespace Dv
open PySem PySem.Spec L2
section
variable {bo : Option Addr} {cs : Cls'} {φ : Phi}
theorem oB_some {α : Type} {o : Option α} {f : α → Bool} (h : oB o false f = true) : ∃ a, o = some a ∧ f a = true := by
  cases o with
  | none => cases h
  | some a => exact ⟨a, rfl, h⟩
theorem frs_of {c : Ct} {f : Nat} {q : Str × Bool × Bool × Nat} (h : c.fns[f]? = some q) : c.frs f = q.2.2.1 := by
  unfold Ct.frs
  rw [h]
theorem FnAt.cast {X : Cx} {cs : Cls'} {x : Str} {b b' fr fr' : Bool} {n n' : Nat} {g : List P → Bx → R P} (h : FnAt X cs x b fr n g) (e1 : b = b') (e2 : fr = fr') (e3 : n = n') : FnAt X cs x b' fr' n' g := by
  subst e1 e2 e3
  exact h
theorem so_call {f : Nat} {as : IE} (ss : SO bo cs φ as) : SO bo cs φ (.call f as) := SO.val (fun {c X H0 W e} k h _ => by
  match e, h with
  | .Call (.Name x p) es [] pos, h =>
    have h : (oB c.fns[f]? false (fun q => decide (q.1 = x) && !q.2.1 && decide (es.length = q.2.2.2)) && glOk c x && allPlain es && okA as c true es) = true := h
    rw [Bool.and_eq_true, Bool.and_eq_true, Bool.and_eq_true] at h
    obtain ⟨⟨⟨h1, h2⟩, h3⟩, h4⟩ := h
    obtain ⟨q, hq, h1⟩ := oB_some h1
    simp only [Bool.and_eq_true, Bool.not_eq_true', decide_eq_true_eq] at h1
    obtain ⟨⟨e1, e2⟩, e3⟩ := h1
    obtain ⟨g1, g2⟩ := gl_of k h2
    obtain ⟨p1, p2⟩ := ss.b (H0 := H0) (W := W) k h4
    have F := (k.fns f q hq).cast e2 rfl e3.symm
    rw [e1] at F
    have hf : frE c (.call f as) = q.2.2.1 := frs_of hq
    rw [hf]
    refine ⟨?_, fun _ _ _ z => nomatch z⟩
    cases es with
    | nil =>
      have : as = .nil := by
        cases as <;> first
          | rfl
          | (exact absurd h4 (by decide))
          | cases h4
      subst this
      exact snd_call0 k.tk F g1 g2
    | cons e es => exact snd_call k.tk F g1 p1 g2 h3 rfl (p2 h3)) rfl (fun _ _ _ => rfl) (fun _ _ => rfl)
theorem so_callK {f : Nat} {pm : List Nat} {as ks : IE} (ss : SO bo cs φ as) (sk : SO bo cs φ ks) : SO bo cs φ (.callK f pm as ks) := SO.val (fun {c X H0 W e} k h _ => by
  match e, h with
  | .Call (.Name x p) es kws pos, h =>
    have h : (oB c.fns[f]? false (fun q => decide (q.1 = x) && decide (pm.length = q.2.2.2) && c.kws.any fun k => decide (k.1 = f) && decide (k.2.1 = es.length) && decide (kws.map Keyword.arg = k.2.2.1.map some) && decide (k.2.2.2 = pm) && pm.all (· < es.length + k.2.2.1.length)) && glOk c x && allPlain es && okA as c true es && okK ks c kws) = true := h
    rw [Bool.and_eq_true, Bool.and_eq_true, Bool.and_eq_true, Bool.and_eq_true] at h
    obtain ⟨⟨⟨⟨h1, h2⟩, h3⟩, h4⟩, h5⟩ := h
    obtain ⟨q, hq, h1⟩ := oB_some h1
    rw [Bool.and_eq_true, Bool.and_eq_true, List.any_eq_true, decide_eq_true_eq, decide_eq_true_eq] at h1
    obtain ⟨⟨e1, e2⟩, kw, hkw, h1⟩ := h1
    rw [Bool.and_eq_true, Bool.and_eq_true, Bool.and_eq_true, Bool.and_eq_true, decide_eq_true_eq, decide_eq_true_eq, decide_eq_true_eq, decide_eq_true_eq] at h1
    obtain ⟨⟨⟨⟨e3, e4⟩, e5⟩, e6⟩, e7⟩ := h1
    obtain ⟨g1, g2⟩ := gl_of k h2
    obtain ⟨p1, p2⟩ := ss.b (H0 := H0) (W := W) k h4
    obtain ⟨p3, p4⟩ := sk.k (H0 := H0) (W := W) k h5
    have F := k.kws kw hkw q (by rw [e3]; exact hq)
    rw [e1, e3, e6] at F
    have hf : frE c (.callK f pm as ks) = q.2.2.1 := frs_of hq
    rw [hf]
    have hlk : kws.length = kw.2.2.1.length := by
      have := congrArg List.length e5
      rw [List.length_map, List.length_map] at this
      exact this
    refine ⟨snd_callSK k.tk F g1 p1 p3 e5 g2 h3 e4.symm (fun z => ?_) (fun en b d b' w => by rw [e4]; exact p2 h3 en b d b' w) (fun en b d b' w => by rw [← hlk]; exact p4 en b d b' w) e2 (by rw [e4]; exact e7), fun _ _ _ z => nomatch z⟩
    subst z
    have : as = .nil := by
      cases as <;> first
        | rfl
        | (exact absurd h4 (by decide))
        | cases h4
    subst this
    rfl) rfl (fun _ _ _ => rfl) (fun _ _ => rfl)
theorem so_callB {f : Nat} {as : IE} (ss : SO bo cs φ as) : SO bo cs φ (.callB f as) := SO.val (fun {c X H0 W e} k h _ => by
  match e, h with
  | .Call (.Name x p) (.Name y py :: es) [] pos, h =>
    have h : (oB c.fns[f]? false (fun q => decide (q.1 = x) && q.2.1 && decide (es.length + 1 = q.2.2.2)) && glOk c x && c.bx && nmOk c 0 y && allPlain es && okA as c true es) = true := h
    rw [Bool.and_eq_true, Bool.and_eq_true, Bool.and_eq_true, Bool.and_eq_true, Bool.and_eq_true] at h
    obtain ⟨⟨⟨⟨⟨h1, h2⟩, h3⟩, h4⟩, h5⟩, h6⟩ := h
    obtain ⟨q, hq, h1⟩ := oB_some h1
    simp only [Bool.and_eq_true, decide_eq_true_eq] at h1
    obtain ⟨⟨e1, e2⟩, e3⟩ := h1
    obtain ⟨g1, g2⟩ := gl_of k h2
    obtain ⟨p1, p2⟩ := ss.b (H0 := H0) (W := W) k h6
    have n := nm_of k h4
    have F := (k.fns f q hq).cast e2 rfl e3.symm
    rw [e1] at F
    have hf : frE c (.callB f as) = q.2.2.1 := frs_of hq
    rw [hf]
    exact ⟨snd_callB k.tk F g1 p1 g2 (k.bx.mp h3) n.hN n.hv n.hd n.hcd h5 rfl (p2 h5), fun _ _ _ z => nomatch z⟩) rfl (fun _ _ _ => rfl) (fun _ _ => rfl)
theorem so_callX {f : Nat} {a as : IE} (sa : SO bo cs φ a) (ss : SO bo cs φ as) : SO bo cs φ (.callX f a as) := SO.val (fun {c X H0 W e} k h _ => by
  match e, h with
  | .Call (.Name x p) (y :: es) [] pos, h =>
    have h : (oB c.fns[f]? false (fun q => decide (q.1 = x) && q.2.1 && !q.2.2.1 && decide (es.length + 1 = q.2.2.2)) && glOk c x && okE a c y && !iterOnly a && frE c a && notStar y && allPlain es && okA as c true es) = true := h
    rw [Bool.and_eq_true, Bool.and_eq_true, Bool.and_eq_true, Bool.and_eq_true, Bool.and_eq_true, Bool.and_eq_true, Bool.and_eq_true, Bool.not_eq_true'] at h
    obtain ⟨⟨⟨⟨⟨⟨⟨h1, h2⟩, h3⟩, h4⟩, h5⟩, h6⟩, h7⟩, h8⟩ := h
    obtain ⟨q, hq, h1⟩ := oB_some h1
    simp only [Bool.and_eq_true, decide_eq_true_eq, Bool.not_eq_true'] at h1
    obtain ⟨⟨⟨e1, e2⟩, e3⟩, e4⟩ := h1
    obtain ⟨g1, g2⟩ := gl_of k h2
    obtain ⟨p1, p2⟩ := ss.b (H0 := H0) (W := W) k h8
    have F := (k.fns f q hq).cast e2 e3 e4.symm
    rw [e1] at F
    have ha := (sa.a (H0 := H0) (W := W) k h3 h4).1
    rw [h5] at ha
    exact ⟨snd_callX k.tk F g1 ha p1 g2 h6 h7 rfl (p2 h7), fun _ _ _ z => nomatch z⟩) rfl (fun _ _ _ => rfl) (fun _ _ => rfl)
theorem bt_int : bootBuiltins "int" = some (.type "int") := by decide +kernel
theorem bt_bool : bootBuiltins "bool" = some (.type "bool") := by decide +kernel
theorem bt_tuple : bootBuiltins "tuple" = some (.type "tuple") := by decide +kernel
theorem bt_list : bootBuiltins "list" = some (.type "list") := by decide +kernel
theorem bt_str : bootBuiltins "str" = some (.type "str") := by decide +kernel
theorem bt_len : bootBuiltins "len" = some (.builtin "len") := by decide +kernel
theorem bt_abs : bootBuiltins "abs" = some (.builtin "abs") := by decide +kernel
theorem bt_sum : bootBuiltins "sum" = some (.builtin "sum") := by decide +kernel
theorem bt_max : bootBuiltins "max" = some (.builtin "max") := by decide +kernel
theorem bt_min : bootBuiltins "min" = some (.builtin "min") := by decide +kernel
theorem bt_all : bootBuiltins "all" = some (.builtin "all") := by decide +kernel
theorem bt_any : bootBuiltins "any" = some (.builtin "any") := by decide +kernel
theorem so_bi {p : Bi} {as : IE} (ss : SO bo cs φ as) : SO bo cs φ (.bi p as) := SO.val (fun {c X H0 W e} k h _ => by
  match e, h with
  | .Call (.Name x pp) es [] pos, h =>
    have h : (decide (biName p = some x) && blOk c x && !isEmptyE es && allPlain es && okA as c false es) = true := h
    rw [Bool.and_eq_true, Bool.and_eq_true, Bool.and_eq_true, Bool.and_eq_true, decide_eq_true_eq] at h
    obtain ⟨⟨⟨⟨h1, h2⟩, h3⟩, h4⟩, h5⟩ := h
    cases es with
    | nil => cases h3
    | cons e es =>
      obtain ⟨g1, g2⟩ := bl_of k h2
      obtain ⟨p1, p2⟩ := ss.b (H0 := H0) (W := W) k h5
      refine ⟨?_, fun _ _ _ z => nomatch z⟩
      cases p with
      | len => cases h1; exact snd_biB cb_len g1 g2 bt_len p1 (by decide) (by decide) h4
      | abs => cases h1; exact snd_biB cb_abs g1 g2 bt_abs p1 (by decide) (by decide) h4
      | int_ => cases h1; exact snd_biT cb_int g1 g2 bt_int p1 (by decide) (by decide) h4
      | bool_ => cases h1; exact snd_biT cb_bool g1 g2 bt_bool p1 (by decide) (by decide) h4
      | tuple_ => cases h1; exact snd_biT cb_tuple g1 g2 bt_tuple p1 (by decide) (by decide) h4
      | list_ => cases h1; exact snd_biT cb_list g1 g2 bt_list p1 (by decide) (by decide) h4
      | sum => cases h1; exact snd_biB (cb_sum k.calm) g1 g2 bt_sum p1 (by decide) (by decide) h4
      | max => cases h1; exact snd_biB (cb_max k.calm k.hu) g1 g2 bt_max p1 (by decide) (by decide) h4
      | min => cases h1; exact snd_biB (cb_min k.calm k.hu) g1 g2 bt_min p1 (by decide) (by decide) h4
      | all => cases h1; exact snd_biB (cb_all k.calm) g1 g2 bt_all p1 (by decide) (by decide) h4
      | any => cases h1; exact snd_biB (cb_any k.calm) g1 g2 bt_any p1 (by decide) (by decide) h4
      | _ => cases h1) rfl (fun _ _ _ => rfl) (fun _ _ => rfl)
theorem tyN_of {t : Ty} {z : Str} (h : tyN t = some z) : ∃ n, tyName t = some n ∧ z = Str.ofString n ∧ bootBuiltins (Str.ofString n) = some (.type n) ∧ Str.ofString n ≠ "__name__" ∧ (Str.ofString n == ("__debug__" : Str)) = false := by
  cases t <;> first
    | (cases h; done)
    | (cases h; exact ⟨"int", rfl, rfl, bt_int, by decide, by decide⟩)
    | (cases h; exact ⟨"str", rfl, rfl, bt_str, by decide, by decide⟩)
    | (cases h; exact ⟨"bool", rfl, rfl, bt_bool, by decide, by decide⟩)
    | (cases h; exact ⟨"tuple", rfl, rfl, bt_tuple, by decide, by decide⟩)
    | (cases h; exact ⟨"list", rfl, rfl, bt_list, by decide, by decide⟩)
theorem or_seq1 : ∀ d b1 b2, isiD .list_ d = some b1 → isiD .tuple_ d = some b2 → isiD .seq_ d = some (b1 || b2) := fun d b1 b2 h1 h2 => by cases d <;> cases h1 <;> cases h2 <;> rfl
theorem or_seq2 : ∀ d b1 b2, isiD .tuple_ d = some b1 → isiD .list_ d = some b2 → isiD .seq_ d = some (b1 || b2) := fun d b1 b2 h1 h2 => by cases d <;> cases h1 <;> cases h2 <;> rfl
theorem or_numstr : ∀ d b1 b2, isiD .bool_ d = some b1 → isiD .str_ d = some b2 → isiD .numstr d = some (b1 || b2) := fun d b1 b2 h1 h2 => by cases d <;> cases h1 <;> cases h2 <;> rfl
def isi2 (t : Ty) (z u : Str) : Bool := match t with
  | .seq_ => (decide (z = "list") && decide (u = "tuple")) || (decide (z = "tuple") && decide (u = "list"))
  | .numstr => decide (z = "bool") && decide (u = "str")
  | _ => false
theorem so_isi {t : Ty} {a : IE} (sa : SO bo cs φ a) : SO bo cs φ (.isi t a) := SO.val (fun {c X H0 W e} k h _ => by
  match e, h with
  | .Call (.Name x _) [y, .Name z _] [] _, h =>
    have h : (decide (x = "isinstance") && blOk c x && decide (tyN t = some z) && blOk c z && okE a c y && !iterOnly a && notStar y) = true := h
    simp only [Bool.and_eq_true, Bool.not_eq_true', decide_eq_true_eq] at h
    obtain ⟨⟨⟨⟨⟨⟨h1, h2⟩, h3⟩, h4⟩, h5⟩, h6⟩, h7⟩ := h
    obtain ⟨n, t1, rfl, t3, t4, t5⟩ := tyN_of h3
    obtain ⟨g1, g2⟩ := bl_of k h2
    obtain ⟨g3, g4⟩ := bl_of k h4
    subst h1
    exact ⟨isi_one t1 g1 g2 g3 g4 t3 t4 t5 (sa.a k h5 h6).1 h7, fun _ _ _ z => nomatch z⟩
  | .Call (.Name x _) [y, .Tuple [.Name z _, .Name u _] _ _] [] _, h =>
    have h : (decide (x = "isinstance") && blOk c x && isi2 t z u && blOk c z && blOk c u && okE a c y && !iterOnly a && notStar y) = true := by
      cases t <;> exact h
    simp only [Bool.and_eq_true, Bool.not_eq_true', decide_eq_true_eq] at h
    obtain ⟨⟨⟨⟨⟨⟨⟨h1, h2⟩, h3⟩, h4⟩, h5⟩, h6⟩, h7⟩, h8⟩ := h
    obtain ⟨g1, g2⟩ := bl_of k h2
    obtain ⟨g3, g4⟩ := bl_of k h4
    obtain ⟨g5, g6⟩ := bl_of k h5
    subst h1
    refine ⟨?_, fun _ _ _ z => nomatch z⟩
    cases t with
    | seq_ =>
      simp only [isi2, Bool.or_eq_true, Bool.and_eq_true, decide_eq_true_eq] at h3
      rcases h3 with ⟨e1, e2⟩ | ⟨e1, e2⟩
      · subst e1 e2
        exact isi_two (t1 := .list_) (t2 := .tuple_) (n1 := "list") (n2 := "tuple") rfl rfl or_seq1 g1 g2 g3 g4 bt_list (by decide) (by decide) g5 g6 bt_tuple (by decide) (by decide) (sa.a k h6 h7).1 h8
      · subst e1 e2
        exact isi_two (t1 := .tuple_) (t2 := .list_) (n1 := "tuple") (n2 := "list") rfl rfl or_seq2 g1 g2 g3 g4 bt_tuple (by decide) (by decide) g5 g6 bt_list (by decide) (by decide) (sa.a k h6 h7).1 h8
    | numstr =>
      simp only [isi2, Bool.and_eq_true, decide_eq_true_eq] at h3
      obtain ⟨e1, e2⟩ := h3
      subst e1 e2
      exact isi_two (t1 := .bool_) (t2 := .str_) (n1 := "bool") (n2 := "str") rfl rfl or_numstr g1 g2 g3 g4 bt_bool (by decide) (by decide) g5 g6 bt_str (by decide) (by decide) (sa.a k h6 h7).1 h8
    | _ => cases h3) rfl (fun _ _ _ => rfl) (fun _ _ => rfl)
end
end Dv
/-! text DH -/
set_option Elab.async false
set_option linter.all false
set_option maxRecDepth 100000
set_option maxHeartbeats 4000000
namespace Dv
open PySem PySem.Spec L2
section
variable {bo : Option Addr} {cs : Cls'} {φ : Phi}
theorem base_of {x : Expr} {n : Str} {env : PySem.Env} (h : plainBase x = true) : attributeBase x n env (eval x env) = eval x env := by
  cases x <;> first
    | rfl
    | cases h
theorem so_mth {m : Mt} {a as : IE} (sa : SO bo cs φ a) (sb : ∀ b, as = .cons b .nil → SO bo cs φ b) : SO bo cs φ (.mth m a as) := SO.val (fun {c X H0 W e} k h _ => by
  match e, h with
  | .Call (.Attribute x n pa) [y] [] pos, h =>
    match m, as, h, sb with
    | .strip, .cons b .nil, h, sb =>
      have h : (decide (n = "strip") && okE a c x && !iterOnly a && okE b c y && !iterOnly b && !ovE b && notStar y && (pa.endLine == pos.line) && plainBase x) = true := h
      simp only [Bool.and_eq_true, Bool.not_eq_true', decide_eq_true_eq] at h
      obtain ⟨⟨⟨⟨⟨⟨⟨⟨h1, h2⟩, h3⟩, h4⟩, h5⟩, h6⟩, h7⟩, h8⟩, h9⟩ := h
      subst h1
      exact ⟨snd_strip (sa.a k h2 h3).1 (((sb b rfl).a k h4 h5).1.ovf h6) h7 h8 (base_of h9), fun _ _ _ z => nomatch z⟩) rfl (fun _ _ _ => rfl) (fun _ _ => rfl)
theorem so_trg {as : IE} (sb : ∀ b, as = .cons b .nil → SO bo cs φ b) : SO bo cs φ (.trg as) := SO.val (fun {c X H0 W e} k h _ => by
  match as, e, h, sb with
  | .cons a .nil, .Call (.Name x _) [.Call (.Name y _) [z] [] _] [] _, h, sb =>
    have h : (decide (x = "tuple") && blOk c x && decide (y = "range") && blOk c y && notStar z && okE a c z && !iterOnly a) = true := h
    simp only [Bool.and_eq_true, Bool.not_eq_true', decide_eq_true_eq] at h
    obtain ⟨⟨⟨⟨⟨⟨h1, h2⟩, h3⟩, h4⟩, h5⟩, h6⟩, h7⟩ := h
    obtain ⟨g1, g2⟩ := bl_of k h2
    obtain ⟨g3, g4⟩ := bl_of k h4
    subst h1 h3
    refine ⟨(snd_rg1 (tp := true) k.calm g1 g2 g3 g4 ((sb a rfl).a k h6 h7).1 h5).congr fun en b => ?_, fun _ _ _ z => nomatch z⟩
    have e1 : ev φ (.trg (.cons a .nil)) en b = (((ev φ a en b).bind fun d b1 => R.ok (PyData.list [d]) b1).bind fun ds b1 => match rngD (argsOf ds) with
      | some xs => if xs.length ≤ line then R.ok (PyData.tuple xs) b1 else .no
      | none => .no) := rfl
    rw [e1, bind_assoc]
    congr 1
    funext d b1
    cases d <;> rfl) rfl (fun _ _ _ => rfl) (fun _ _ => rfl)
theorem so_lrg {as : IE} (sb : ∀ b, as = .cons b .nil → SO bo cs φ b) : SO bo cs φ (.lrg as) := SO.val (fun {c X H0 W e} k h _ => by
  match as, e, h, sb with
  | .cons a .nil, .Call (.Name x _) [.Call (.Name y _) [z] [] _] [] _, h, sb =>
    have h : (decide (x = "list") && blOk c x && decide (y = "range") && blOk c y && notStar z && okE a c z && !iterOnly a) = true := h
    simp only [Bool.and_eq_true, Bool.not_eq_true', decide_eq_true_eq] at h
    obtain ⟨⟨⟨⟨⟨⟨h1, h2⟩, h3⟩, h4⟩, h5⟩, h6⟩, h7⟩ := h
    obtain ⟨g1, g2⟩ := bl_of k h2
    obtain ⟨g3, g4⟩ := bl_of k h4
    subst h1 h3
    refine ⟨(snd_rg1 (tp := false) k.calm g1 g2 g3 g4 ((sb a rfl).a k h6 h7).1 h5).congr fun en b => ?_, fun _ _ _ z => nomatch z⟩
    have e1 : ev φ (.lrg (.cons a .nil)) en b = (((ev φ a en b).bind fun d b1 => R.ok (PyData.list [d]) b1).bind fun ds b1 => match rngD (argsOf ds) with
      | some xs => if xs.length ≤ line then R.ok (PyData.list xs) b1 else .no
      | none => .no) := rfl
    rw [e1, bind_assoc]
    congr 1
    funext d b1
    cases d <;> rfl) rfl (fun _ _ _ => rfl) (fun _ _ => rfl)
/-- only walks -/
theorem SO.walk {ie : IE} (cc : SC bo cs φ ie) (ho : iterOnly ie = true) (hb : ∀ c m es, okA ie c m es = false) (hk : ∀ c ks, okK ie c ks = false) : SO bo cs φ ie := by
  refine ⟨?_, ?_, ?_, cc⟩
  · intro c X H0 W e k h z
    rw [ho] at z
    cases z
  · intro c X H0 W m es k h
    rw [hb] at h
    cases h
  · intro c X H0 W kws k h
    rw [hk] at h
    cases h
theorem liftI_congr {X : Cx} {H0 : Hp} {W : WX} {tg e : Expr} {st : Bool} {g g' : Env → Bx → R P} (h : PI X tg e (liftI bo H0 cs W st g)) (q : ∀ en b, g en b = g' en b) : PI X tg e (liftI bo H0 cs W st g') := by
  have : g = g' := funext fun en => funext fun b => q en b
  rw [← this]
  exact h
/-- a result that has n values -/
theorem gs_congr {g : Env → Bx → R P} {f f' : List P → Option (List P)} {n : Nat} (hl : ∀ en b d b', g en b = .ok d b' → (argsOf d).length = n) (hf : ∀ ds : List P, ds.length = n → f ds = f' ds) (en : Env) (b : Bx) :
    ((g en b).bind fun ds b1 => R.ofO ((f (argsOf ds)).map PyData.list) b1) = (g en b).bind fun ds b1 => R.ofO ((f' (argsOf ds)).map PyData.list) b1 := by
  have h := hl en b
  cases q : g en b with
  | no => rfl
  | ex c d b => rfl
  | ok d b1 =>
    rw [bindR_ok, bindR_ok, hf _ (h d b1 q)]
theorem so_rng {as : IE} (ss : SO bo cs φ as) : SO bo cs φ (.rng as) := SO.walk (by
  intro c X H0 W e tg st k h _ _ _
  match e, h with
  | .Call (.Name x _) es [] _, h =>
    have h : (decide (x = "range") && blOk c x && allPlain es && !isEmptyE es && okA as c false es && decide (es.length ≤ 3)) = true := h
    simp only [Bool.and_eq_true, Bool.not_eq_true', decide_eq_true_eq] at h
    obtain ⟨⟨⟨⟨⟨h1, h2⟩, h3⟩, h4⟩, h5⟩, h6⟩ := h
    obtain ⟨g1, g2⟩ := bl_of k h2
    obtain ⟨p1, p2⟩ := ss.b (H0 := H0) (W := W) k h5
    have p2 := p2 h3
    subst h1
    match es, h3, h4, h6, p1, p2 with
    | [a], h3, h4, h6, p1, p2 =>
      have q : (notStar a && true) = true := h3
      rw [Bool.and_true] at q
      exact liftI_congr (spi_rng1 g1 g2 p1 q) (gs_congr p2 fun ds hl => by
        match ds, hl with
        | [d], _ => cases d <;> rfl)
    | [a, a2], h3, h4, h6, p1, p2 =>
      have q : (notStar a && (notStar a2 && true)) = true := h3
      rw [Bool.and_true, Bool.and_eq_true] at q
      exact liftI_congr (spi_rng2 g1 g2 p1 q.1 q.2) (gs_congr p2 fun ds hl => by
        match ds, hl with
        | [d, d2], _ => cases d <;> cases d2 <;> rfl)
    | [a, a2, a3], h3, h4, h6, p1, p2 =>
      have q : (notStar a && allPlain [a2, a3]) = true := h3
      rw [Bool.and_eq_true] at q
      exact liftI_congr (spi_rng3 g1 g2 p1 q.1 q.2) (gs_congr p2 fun ds hl => by
        match ds, hl with
        | [d, d2, d3], _ =>
          unfold rng3
          split
          · rename_i heq
            cases heq
            rfl
          · rename_i hne
            unfold rngD
            split
            · rename_i heq
              cases heq
            · rename_i heq
              cases heq
            · rename_i heq
              cases heq
              exact absurd rfl (hne _ _)
            · rfl)) rfl (fun _ _ _ => rfl) (fun _ _ => rfl)
theorem so_enm {a : IE} (sa : SO bo cs φ a) : SO bo cs φ (.enm a) := SO.walk (by
  intro c X H0 W e tg st k h _ ht hv
  match e, h with
  | .Call (.Name x q1) [y] [] q2, h =>
    have h : (decide (x = "enumerate") && blOk c x && notStar y && okE a c y && !iterOnly a) = true := h
    simp only [Bool.and_eq_true, Bool.not_eq_true', decide_eq_true_eq] at h
    obtain ⟨⟨⟨⟨h1, h2⟩, h3⟩, h4⟩, h5⟩ := h
    obtain ⟨g1, g2⟩ := bl_of k h2
    subst h1
    have ht := ht rfl
    have ha := (sa.a (H0 := H0) (W := W) k h4 h5).1
    cases tg with
    | Tuple elts kk tp =>
      have key : ∀ m : Mo, (m = .n → ovE a = false) → (st = true → m = .n) → PI X (.Tuple elts kk tp) (.Call (.Name "enumerate" q1) [y] [] q2) (liftI bo H0 cs W st (ev φ (.enm a))) := fun m hm hs =>
        liftI_congr (spi_enum (m := m) g1 g2 (spa_cons ha hm spa_nil h3) h3 hs) fun en b => by
          rw [bind_assoc]
          rfl
      cases st with
      | true => exact key .n (fun _ => hv rfl) (fun _ => rfl)
      | false => exact key .r (fun z => nomatch z) (fun z => nomatch z)
    | _ => cases ht) rfl (fun _ _ _ => rfl) (fun _ _ => rfl)
theorem so_zip {a a2 : IE} (sa : SO bo cs φ a) (sb : SO bo cs φ a2) : SO bo cs φ (.zip a a2) := SO.walk (by
  intro c X H0 W e tg st k h _ ht hv
  match e, h with
  | .Call (.Name x q1) [y, z] [] q2, h =>
    have h : (decide (x = "zip") && blOk c x && notStar y && notStar z && okE a c y && !iterOnly a && okE a2 c z && !iterOnly a2) = true := h
    simp only [Bool.and_eq_true, Bool.not_eq_true', decide_eq_true_eq] at h
    obtain ⟨⟨⟨⟨⟨⟨⟨h1, h2⟩, h3⟩, h4⟩, h5⟩, h6⟩, h7⟩, h8⟩ := h
    obtain ⟨g1, g2⟩ := bl_of k h2
    subst h1
    have ht := ht rfl
    have ha := (sa.a (H0 := H0) (W := W) k h5 h6).1
    have hb := (sb.a (H0 := H0) (W := W) k h7 h8).1
    have hp : allPlain [z] = true := by
      show (notStar z && true) = true
      rw [h4]
      rfl
    cases tg with
    | Tuple elts kk tp =>
      have key : ∀ m : Mo, (m = .n → ovE a = false ∧ ovE a2 = false) → (st = true → m = .n) → PI X (.Tuple elts kk tp) (.Call (.Name "zip" q1) [y, z] [] q2) (liftI bo H0 cs W st (ev φ (.zip a a2))) := fun m hm hs =>
        liftI_congr (spi_zip (m := m) g1 g2 (spa_cons ha (fun w => (hm w).1) (spa_cons hb (fun w => (hm w).2) spa_nil h4) h3) h3 hp hs) fun en b => by
          rw [bind_assoc]
          show ((ev φ a en b).bind fun d b1 => (((ev φ a2 en b1).bind fun d2 b2 => R.ok (.list [d2]) b2).bind fun ds b2 => R.ok (.list (d :: argsOf ds)) b2).bind fun ds b1 => R.ofO ((zip2 (argsOf ds)).map PyData.list) b1) = (ev φ a en b).bind fun d b1 => (ev φ a2 en b1).bind fun d' b2 => R.ofO ((zipV d d').map PyData.list) b2
          congr 1
          funext d b1
          rw [bind_assoc, bind_assoc]
          rfl
      cases st with
      | true =>
        have hv : (ovE a || ovE a2) = false := hv rfl
        rw [Bool.or_eq_false_iff] at hv
        exact key .n (fun _ => hv) (fun _ => rfl)
      | false => exact key .r (fun z => nomatch z) (fun z => nomatch z)
    | _ => cases ht) rfl (fun _ _ _ => rfl) (fun _ _ => rfl)
theorem PTs.imp {X : Cx} {fs : List Expr} {t u : TT} (h : PTs X fs t) (i : ∀ σ H Q, u σ H Q → t σ H Q) : PTs X fs u := ⟨fun pins s σ H Q I q => h.run pins s σ H Q I (i σ H Q q)⟩
theorem isYes_eq {ie : IE} (h : isYes ie = true) : ie = .cst (.bool true) := by
  unfold isYes at h
  split at h
  · rfl
  · cases h
theorem so_lc {own : List Nat} {elt : IE} {tg : Tg} {it ifs : IE} (se : SO bo cs φ elt) (si : SO bo cs φ it) (sf : SO bo cs φ ifs) : SO bo cs φ (.lc own elt tg it ifs) := SO.val (fun {c X H0 W e} k h _ => by
  match e, h with
  | .ListComp x [⟨t, i, fs, 0⟩] scope pos, h =>
    have h : (blkOk c scope own && okE it c i && notSet i && (!needTup it || isTup t) && okT tg (c.inBlk scope) t && (tgIx tg).all own.contains && ifsB fs (isYes ifs) (fun f => okE ifs (c.inBlk scope) f && !iterOnly ifs) && okE elt (c.inBlk scope) x && !iterOnly elt && !ovE elt) = true := h
    simp only [Bool.and_eq_true, Bool.not_eq_true', Bool.or_eq_true] at h
    obtain ⟨⟨⟨⟨⟨⟨⟨⟨⟨h1, h2⟩, h3⟩, h4⟩, h5⟩, h6⟩, h7⟩, h8⟩, h9⟩, h10⟩ := h
    obtain ⟨b1, b2, b3⟩ := blk_of k h1
    have hix : ∀ j, j ∈ tgIx tg → j ∈ own := fun j hj => by
      have := List.all_eq_true.mp h6 j hj
      simpa using this
    refine ⟨Snd.of_f ?_ rfl, fun _ _ _ z => nomatch z⟩
    have hpi : PI X t i (liftI bo H0 cs W false (ev φ it)) := by
      refine si.pi (st := false) k h2 (fun w => ?_) (fun z => nomatch z)
      rcases h4 with h4 | h4
      · rw [w] at h4
        cases h4
      · exact h4
    have r := snd_lc (H0 := H0) (W := W) (cs := cs) (pos := pos) (ifs := fs) k.calm k.nd hpi b1
      (fun s H C cl fp => okT_sound (φ := φ) (k.inBlk s H scope C cl fp) h5) (gifs := ev φ ifs) (fun s H C cl fp => ?_) (fun s H C cl fp => (((se.a (H0 := H0) (W := W0) (k.inBlk s H scope C cl fp) h8 h9).1.ovf h10).n rfl)) h3 (by rw [b2]; exact b3) (by rw [b2]; exact hix)
    · rw [b2] at r
      exact r
    · match fs, h7 with
      | [], h7 =>
        have e := isYes_eq (show isYes ifs = true from h7)
        subst e
        exact PTs.imp pts_nil fun σ H Q ⟨en, b, F, p, q⟩ => q F H (Ext.refl p.sub) p.box
      | [f], h7 =>
        have h7 : (okE ifs (c.inBlk scope) f && !iterOnly ifs) = true := h7
        simp only [Bool.and_eq_true, Bool.not_eq_true'] at h7
        exact pts_one (sf.a (H0 := H0) (W := W0) (k.inBlk s H scope C cl fp) h7.1 h7.2).1.t) rfl (fun _ _ _ => rfl) (fun _ _ => rfl)
/-- a form that the checker takes nowhere -/
theorem SO.bad {ie : IE} (h1 : ∀ c e, okE ie c e = false) (hb : ∀ c m es, okA ie c m es = false) (hk : ∀ c ks, okK ie c ks = false) : SO bo cs φ ie := by
  refine ⟨?_, ?_, ?_, ?_⟩
  · intro c X H0 W e k h z
    rw [h1] at h
    cases h
  · intro c X H0 W m es k h
    rw [hb] at h
    cases h
  · intro c X H0 W kws k h
    rw [hk] at h
    cases h
  · intro c X H0 W e tg st k h
    rw [h1] at h
    cases h
theorem sub1 {P : IE → Prop} {as : IE} (h : P as) (hc : ∀ a as, P (.cons a as) → P a) : ∀ b, as = .cons b .nil → P b := fun b e => by
  subst e
  exact hc b .nil h
end
end Dv
/-! text DI -/
set_option Elab.async false
set_option linter.all false
set_option maxRecDepth 100000
set_option maxHeartbeats 4000000
namespace Dv
open PySem PySem.Spec L2
section
variable {bo : Option Addr} {cs : Cls'} {φ : Phi}
theorem so_both (ie : IE) : SO bo cs φ ie ∧ ∀ b as, ie = .cons b as → SO bo cs φ b := by
  induction ie with
  | var i => exact ⟨so_var, fun _ _ z => nomatch z⟩
  | ovar i => exact ⟨so_ovar, fun _ _ z => nomatch z⟩
  | cst d => exact ⟨so_cst, fun _ _ z => nomatch z⟩
  | glob d => exact ⟨so_glob, fun _ _ z => nomatch z⟩
  | bin op a b ha hb => exact ⟨so_bin ha.1 hb.1, fun _ _ z => nomatch z⟩
  | neg a ha => exact ⟨so_neg ha.1, fun _ _ z => nomatch z⟩
  | not a ha => exact ⟨so_not ha.1, fun _ _ z => nomatch z⟩
  | cmp op a b ha hb => exact ⟨so_cmp ha.1 hb.1, fun _ _ z => nomatch z⟩
  | chain o1 o2 a b d ha hb hd => exact ⟨so_chain ha.1 hb.1 hd.1, fun _ _ z => nomatch z⟩
  | chain3 o1 o2 o3 a b d g ha hb hd hg => exact ⟨so_chain3 ha.1 hb.1 hd.1 hg.1, fun _ _ z => nomatch z⟩
  | bget j => exact ⟨so_bget, fun _ _ z => nomatch z⟩
  | and a b ha hb => exact ⟨so_and ha.1 hb.1, fun _ _ z => nomatch z⟩
  | or a b ha hb => exact ⟨so_or ha.1 hb.1, fun _ _ z => nomatch z⟩
  | ite t a b ht ha hb => exact ⟨so_ite ht.1 ha.1 hb.1, fun _ _ z => nomatch z⟩
  | nil => exact ⟨so_nil, fun _ _ z => nomatch z⟩
  | cons a as ha hs => exact ⟨so_cons ha.1 hs.1, fun b as' z => by cases z; exact ha.1⟩
  | star a as ha hs => exact ⟨so_star ha.1 hs.1, fun _ _ z => nomatch z⟩
  | tup as hs => exact ⟨so_tup hs.1, fun _ _ z => nomatch z⟩
  | lst as hs => exact ⟨so_lst hs.1, fun _ _ z => nomatch z⟩
  | idx a i ha hi => exact ⟨so_idx ha.1 hi.1, fun _ _ z => nomatch z⟩
  | slc a lo hi ha hl hh => exact ⟨so_slc ha.1 hl.1 hh.1, fun _ _ z => nomatch z⟩
  | rev a ha => exact ⟨so_rev ha.1, fun _ _ z => nomatch z⟩
  | lc own elt tg it ifs he hi hf => exact ⟨so_lc he.1 hi.1 hf.1, fun _ _ z => nomatch z⟩
  | lc2 own own2 elt tg it ifs tg2 it2 ifs2 => exact ⟨SO.bad (fun _ _ => rfl) (fun _ _ _ => rfl) (fun _ _ => rfl), fun _ _ z => nomatch z⟩
  | call f as hs => exact ⟨so_call hs.1, fun _ _ z => nomatch z⟩
  | callK f pm as ks hs hk => exact ⟨so_callK hs.1 hk.1, fun _ _ z => nomatch z⟩
  | callB f as hs => exact ⟨so_callB hs.1, fun _ _ z => nomatch z⟩
  | callX f a as ha hs => exact ⟨so_callX ha.1 hs.1, fun _ _ z => nomatch z⟩
  | bi p as hs => exact ⟨so_bi hs.1, fun _ _ z => nomatch z⟩
  | isi t a ha => exact ⟨so_isi ha.1, fun _ _ z => nomatch z⟩
  | mth m a as ha hs => exact ⟨so_mth ha.1 (fun b e => hs.2 b _ e), fun _ _ z => nomatch z⟩
  | rng as hs => exact ⟨so_rng hs.1, fun _ _ z => nomatch z⟩
  | trg as hs => exact ⟨so_trg (fun b e => hs.2 b _ e), fun _ _ z => nomatch z⟩
  | lrg as hs => exact ⟨so_lrg (fun b e => hs.2 b _ e), fun _ _ z => nomatch z⟩
  | enm a ha => exact ⟨so_enm ha.1, fun _ _ z => nomatch z⟩
  | zip a b ha hb => exact ⟨so_zip ha.1 hb.1, fun _ _ z => nomatch z⟩
  | tmp is a ha => exact ⟨SO.bad (fun _ _ => rfl) (fun _ _ _ => rfl) (fun _ _ => rfl), fun _ _ z => nomatch z⟩
theorem so_all (ie : IE) : SO bo cs φ ie := (so_both ie).1
end

/-! ### statements -/
/-- a comprehension whose value is swapped into the name at once -/
def lcNow (e : Expr) (x : Str) (py : Pos) : Bool := match e with
  | .ListComp _ _ sc p => (py.line == p.line) && !(sc.names.any fun (n, k) => n == x && (k == .local || k == .cell))
  | _ => false
def notComp : Expr → Bool
  | .ListComp _ _ _ _ => false
  | .SetComp _ _ _ _ => false
  | .DictComp _ _ _ _ _ => false
  | _ => true
def isLc : Expr → Bool
  | .ListComp _ _ _ _ => true
  | _ => false
def notName : Expr → Bool
  | .Name _ _ => false
  | _ => true
/-- two or three names whose values are stored from the right -/
def swOk (vs : List Expr) (lines : Bool) : Bool := lines && vs.all notStar && !(vs.all (foldedForSure 8)) && !(vs.all (constantsAlone 8))
/-- the values are stored from the left -/
def noSw (t e : Expr) : Bool := match t, e with
  | .Tuple ts _ _, .Tuple vs _ _ => !(ts.length == 2 || ts.length == 3) || vs.all (foldedForSure 8)
  | .List _ _, .Tuple _ _ _ => false
  | _, _ => true
/-- a name that is not a plain local one -/
def offLoc (c : Ct) : Expr → Bool
  | .Name x _ => !decide (c.sc.names.lookup x = some .local)
  | _ => true
def tupEls : Expr → List Expr
  | .Tuple ts _ _ => ts
  | _ => []
def isTupB : Expr → Bool
  | .Tuple _ _ _ => true
  | _ => false
def noSwC (c : Ct) (t e : Expr) : Bool := noSw t e || (isTupB t && (tupEls t).any (offLoc c))
def setOk (c : Ct) (ow : Bool) (ie : IE) : Bool := !iterOnly ie && (if ow then frE c ie else !ovE ie)
/-! views: small, so that their cases are cheap -/
def v1 {α : Type} : List α → Option α
  | [a] => some a
  | _ => none
def v2 {α : Type} : List α → Option (α × α)
  | [a, b] => some (a, b)
  | _ => none
def v3 {α : Type} : List α → Option (α × α × α)
  | [a, b, c] => some (a, b, c)
  | _ => none
def vAssign : Stmt → Option (List Expr × Expr × Pos)
  | .Assign ts v p => some (ts, v, p)
  | _ => none
def vName : Expr → Option (Str × Pos)
  | .Name x p => some (x, p)
  | _ => none
def vTup : Expr → Option (List Expr)
  | .Tuple es _ _ => some es
  | _ => none
def vExpr : Stmt → Option Expr
  | .Expr e _ => some e
  | _ => none
def vCall : Expr → Option (Expr × List Expr × List Keyword × Pos)
  | .Call f es ks p => some (f, es, ks, p)
  | _ => none
def vAttr : Expr → Option (Expr × Str × Pos)
  | .Attribute e n p => some (e, n, p)
  | _ => none
def vSub : Expr → Option (Expr × Expr)
  | .Subscript a i _ => some (a, i)
  | _ => none
def vAug : Stmt → Option (Expr × Operator × Expr)
  | .AugAssign t o v _ => some (t, o, v)
  | _ => none
def vFor : Stmt → Option (Expr × Expr × List Stmt × List Stmt)
  | .For t i b e _ => some (t, i, b, e)
  | _ => none
def vWhile : Stmt → Option (Expr × List Stmt × List Stmt)
  | .While t b e _ => some (t, b, e)
  | _ => none
def vIf : Stmt → Option (Expr × List Stmt × List Stmt)
  | .If t a b _ => some (t, a, b)
  | _ => none
def vRet : Stmt → Option (Option Expr)
  | .Return v _ => some v
  | _ => none
def noS {α : Type} : List α → Bool
  | [] => true
  | _ => false
/-- target, value of a plain assignment -/
def asg1 (s : Stmt) (f : Expr → Expr → Pos → Bool) : Bool := oB (vAssign s) false fun q => oB (v1 q.1) false fun t => f t q.2.1 q.2.2
def okSet (c : Ct) (i : Nat) (ow : Bool) (e : IE) (s : Stmt) : Bool := asg1 s fun t v p => oB (vName t) false fun x => tgOk c i x.1 && locOk c x.1 && okE e c v && setOk c ow e && (notComp v || isLc v)
def okPar2 (c : Ct) (i : Nat) (oi : Bool) (j : Nat) (oj : Bool) (a b : IE) (s : Stmt) : Bool := asg1 s fun t v p => oB (vTup t) false fun ts => oB (v2 ts) false fun n => oB (vName n.1) false fun x => oB (vName n.2) false fun y => oB (vTup v) false fun vs => oB (v2 vs) false fun w =>
  (tgOk c i x.1 && locOk c x.1 && tgOk c j y.1 && locOk c y.1 && i != j && !(x.1 == y.1)) && (okE a c w.1 && setOk c oi a && okE b c w.2 && setOk c oj b) && swOk [w.1, w.2] (y.2.line == x.2.line)
def okPar3 (c : Ct) (i : Nat) (oi : Bool) (j : Nat) (oj : Bool) (l : Nat) (ol : Bool) (a b d : IE) (s : Stmt) : Bool := asg1 s fun t v p => oB (vTup t) false fun ts => oB (v3 ts) false fun n => oB (vName n.1) false fun x => oB (vName n.2.1) false fun y => oB (vName n.2.2) false fun z => oB (vTup v) false fun vs => oB (v3 vs) false fun w =>
  (tgOk c i x.1 && locOk c x.1 && tgOk c j y.1 && locOk c y.1 && tgOk c l z.1 && locOk c z.1) && (i != j && i != l && j != l && !(x.1 == y.1) && !(x.1 == z.1) && !(y.1 == z.1)) &&
      (okE a c w.1 && setOk c oi a && okE b c w.2.1 && setOk c oj b && okE d c w.2.2 && setOk c ol d) && swOk [w.1, w.2.1, w.2.2] ((y.2.line == x.2.line) && (z.2.line == x.2.line))
def okSett (c : Ct) (tg : Tg) (e : IE) (s : Stmt) : Bool := asg1 s fun t v p => okT tg c t && okE e c v && !iterOnly e && !ovE e && noSwC c t v && notStar t && (offLoc c t || notComp v)
/-- x.n(v) -/
def methS (s : Stmt) (f : Str → Str → Expr → Bool) : Bool := oB (vExpr s) false fun e => oB (vCall e) false fun q => oB (vAttr q.1) false fun a => oB (vName a.1) false fun x => oB (v1 q.2.1) false fun v => noS q.2.2.1 && (a.2.2.endLine == q.2.2.2.line) && f x.1 a.2.1 v
def okApp (c : Ct) (i : Nat) (e : IE) (s : Stmt) : Bool := methS s fun x n v => decide (n = "append") && nmOk c i x && okE e c v && !iterOnly e && !ovE e && notStar v
def okExt (c : Ct) (i : Nat) (e : IE) (s : Stmt) : Bool := methS s fun x n v => decide (n = "extend") && nmOk c i x && okE e c v && !iterOnly e && notStar v
def okStix (c : Ct) (i : Nat) (k e : IE) (s : Stmt) : Bool := asg1 s fun t v p => oB (vSub t) false fun q => oB (vName q.1) false fun x => nmOk c i x.1 && okE k c q.2 && !iterOnly k && notSlice q.2 && okE e c v && !iterOnly e && !ovE e
/-- the constant j -/
def isIntC : Expr → Nat → Bool
  | .Constant (.int i) _ _, j => decide (i = (j : Int))
  | _, _ => false
def okBset (c : Ct) (j : Nat) (e : IE) (s : Stmt) : Bool := asg1 s fun t v p => oB (vSub t) false fun q => oB (vName q.1) false fun x => c.bx && nmOk c 0 x.1 && isIntC q.2 j && okE e c v && !iterOnly e && !ovE e
def augOk : Op → Operator → Bool
  | .add, .Add => true
  | .sub, .Sub => true
  | _, _ => false
def okAug (c : Ct) (i : Nat) (op : Op) (e : IE) (s : Stmt) : Bool := oB (vAug s) false fun q => oB (vName q.1) false fun x => nmOk c i x.1 && locOk c x.1 && (!c.bx || i != 0) && okE e c q.2.2 && !iterOnly e && augOk op q.2.1
def okFor (c : Ct) (tg : Tg) (it : IE) (f : List Stmt → Bool) (s : Stmt) : Bool := oB (vFor s) false fun q => okT tg c q.1 && okE it c q.2.1 && notSet q.2.1 && (!needTup it || isTup q.1) && !ovI it && noS q.2.2.2 && f q.2.2.1
def okWhile (c : Ct) (t : IE) (f : List Stmt → Bool) (s : Stmt) : Bool := oB (vWhile s) false fun q => okE t c q.1 && !iterOnly t && noS q.2.2 && f q.2.1
def okIf (c : Ct) (t : IE) (f g : List Stmt → Bool) (s : Stmt) : Bool := oB (vIf s) false fun q => okE t c q.1 && !iterOnly t && f q.2.1 && g q.2.2
def isNm : Expr → Bool
  | .Name _ _ => true
  | _ => false
def okRet (c : Ct) (fr : Bool) (e : IE) (s : Stmt) : Bool := oB (vRet s) false fun q => oB q false fun v => okE e c v && !iterOnly e && (if ovE e then fr && isNm v else if fr then frE c e else true)
def okRetN (s : Stmt) : Bool := oB (vRet s) false fun q => oB q true fun _ => false
def okDrop (c : Ct) (e : IE) (s : Stmt) : Bool := oB (vExpr s) false fun v => okE e c v && !iterOnly e && notComp v
def okPass : Stmt → Bool
  | .Pass _ => true
  | _ => false
def isFrz : IS → Bool
  | .frz _ => true
  | _ => false
mutual
/-- one statement -/
def okS : IS → Ct → Bool → Stmt → Bool
  | .nop, c, fr, s => okPass s
  | .set i ow e, c, fr, s => okSet c i ow e s
  | .par2 i oi j oj a b, c, fr, s => okPar2 c i oi j oj a b s
  | .par3 i oi j oj l ol a b d, c, fr, s => okPar3 c i oi j oj l ol a b d s
  | .sett tg e, c, fr, s => okSett c tg e s
  | .app i e, c, fr, s => okApp c i e s
  | .ext i e, c, fr, s => okExt c i e s
  | .stix i k e, c, fr, s => okStix c i k e s
  | .bset j e, c, fr, s => okBset c j e s
  | .aug i op e, c, fr, s => okAug c i op e s
  | .forr tg it body, c, fr, s => okFor c tg it (fun b => okB body c fr b) s
  | .whil t body, c, fr, s => okWhile c t (fun b => okB body c fr b) s
  | .iff t a b, c, fr, s => okIf c t (fun p => okB a c fr p) (fun q => okB b c fr q) s
  | .ret e, c, fr, s => okRet c fr e s
  | .retn, c, fr, s => okRetN s
  | .drop e, c, fr, s => okDrop c e s
  | _, _, _, _ => false
termination_by structural s => s
/-- a block -/
def okB : IS → Ct → Bool → List Stmt → Bool
  | .nop, c, fr, ss => match ss with
    | [] => true
    | _ => false
  | .seq a b, c, fr, ss => match ss with
    | [] => isFrz a && okB b c fr []
    | s :: ss => if isFrz a then okB b c fr (s :: ss) else okS a c fr s && okB b c fr ss
  | _, _, _, _ => false
termination_by structural s => s
end
end Dv
/-! text DJ -/
set_option Elab.async false
set_option linter.all false
set_option maxRecDepth 100000
set_option maxHeartbeats 4000000
namespace Dv
open PySem PySem.Spec L2
theorem star_false {a : Expr} (h : notStar a = true) : (match (generalizing := false) a with | .Starred .. => true | _ => false) = false := by
  cases a <;> first
    | rfl
    | cases h
theorem bk_of {env : PySem.Env} (h : env.scope.kind = .function) : env.blockKind = .function := by
  unfold Env.blockKind
  rw [h]
  rfl
theorem dups2 {x y : Str} (h : (x == y) = false) : ([x, y] : List Str).eraseDups = [x, y] := by
  have h2 : (y == x) = false := by
    rw [beq_eq_false_iff_ne] at h ⊢
    exact fun e => h e.symm
  simp [List.eraseDups, List.eraseDupsBy, List.eraseDupsBy.loop, h, h2]
theorem dups3 {x y z : Str} (h : (x == y) = false) (h3 : (x == z) = false) (h4 : (y == z) = false) : ([x, y, z] : List Str).eraseDups = [x, y, z] := by
  have h2 : (y == x) = false := by
    rw [beq_eq_false_iff_ne] at h ⊢
    exact fun e => h e.symm
  have h5 : (z == x) = false := by
    rw [beq_eq_false_iff_ne] at h3 ⊢
    exact fun e => h3 e.symm
  have h6 : (z == y) = false := by
    rw [beq_eq_false_iff_ne] at h4 ⊢
    exact fun e => h4 e.symm
  simp [List.eraseDups, List.eraseDupsBy, List.eraseDupsBy.loop, h, h2, h3, h4, h5, h6]
theorem sw2 {x y : Str} {px py pt pt2 : Pos} {kt k2 : Nat} {a b : Expr} {env : PySem.Env} (hk : env.scope.kind = .function) (hx : env.scope.names.lookup x = some .local) (hy : env.scope.names.lookup y = some .local) (hxy : (x == y) = false) (h : swOk [a, b] (py.line == px.line) = true) :
    swappedStores [.Tuple [.Name x px, .Name y py] kt pt] (.Tuple [a, b] k2 pt2) env = pure (some [x, y]) := by
  unfold swOk at h
  simp only [Bool.and_eq_true, Bool.not_eq_true'] at h
  obtain ⟨⟨⟨h1, h2⟩, h3⟩, h4⟩ := h
  have kx : env.kindOf x = some .local := hx
  have ky : env.kindOf y = some .local := hy
  have h2a : notStar a = true ∧ notStar b = true := by simpa using h2
  have hp : (Expr.Name x px).pos.line = px.line := rfl
  unfold swappedStores
  simp [bk_of hk, kx, ky, dups2 hxy, h3, h4, eq_of_beq h1, List.filterMap_cons, hp]
  intro q
  exfalso
  rcases q with q | q
  · split at q
    · cases h2a.1
    · cases q
  · split at q
    · cases h2a.2
    · cases q
theorem sw3 {x y z : Str} {px py pz pt pt2 : Pos} {kt k2 : Nat} {a b c : Expr} {env : PySem.Env} (hk : env.scope.kind = .function) (hx : env.scope.names.lookup x = some .local) (hy : env.scope.names.lookup y = some .local) (hz : env.scope.names.lookup z = some .local)
    (hxy : (x == y) = false) (hxz : (x == z) = false) (hyz : (y == z) = false) (h : swOk [a, b, c] ((py.line == px.line) && (pz.line == px.line)) = true) :
    swappedStores [.Tuple [.Name x px, .Name y py, .Name z pz] kt pt] (.Tuple [a, b, c] k2 pt2) env = pure (some [x, y, z]) := by
  unfold swOk at h
  simp only [Bool.and_eq_true, Bool.not_eq_true'] at h
  obtain ⟨⟨⟨⟨h1, h1z⟩, h2⟩, h3⟩, h4⟩ := h
  have kx : env.kindOf x = some .local := hx
  have ky : env.kindOf y = some .local := hy
  have kz : env.kindOf z = some .local := hz
  have h2a : notStar a = true ∧ notStar b = true ∧ notStar c = true := by simpa using h2
  have hp : (Expr.Name x px).pos.line = px.line := rfl
  unfold swappedStores
  simp [bk_of hk, kx, ky, kz, dups3 hxy hxz hyz, h3, h4, eq_of_beq h1, eq_of_beq h1z, List.filterMap_cons, hp]
  intro q
  exfalso
  rcases q with q | q | q
  · split at q
    · cases h2a.1
    · cases q
  · split at q
    · cases h2a.2.1
    · cases q
  · split at q
    · cases h2a.2.2
    · cases q
theorem swN {t e : Expr} {env : PySem.Env} (h : noSw t e = true) : swappedStores [t] e env = pure none := by
  unfold noSw at h
  split at h
  · rename_i ts k p vs k2 p2
    rw [Bool.or_eq_true, Bool.not_eq_true'] at h
    unfold swappedStores
    rcases h with h | h
    · simp [h]
    · simp [h]
  · cases h
  · rename_i n1 n2
    unfold swappedStores
    split
    · rename_i q
      split at q
      · rename_i e1
        exact (n1 _ _ _ _ _ _ (List.cons.inj e1).1 rfl).elim
      · rename_i e1
        exact (n2 _ _ _ _ _ (List.cons.inj e1).1 rfl).elim
      · cases q
    · rfl
theorem filterMap_short {α β : Type} {f : α → Option β} : ∀ {l : List α}, (∃ a ∈ l, f a = none) → (l.filterMap f).length < l.length
  | [], ⟨a, h, _⟩ => by cases h
  | x :: xs, ⟨a, h, e⟩ => by
    rw [List.filterMap_cons]
    rcases List.mem_cons.mp h with h | h
    · subst h
      rw [e]
      have := List.length_filterMap_le f xs
      show (xs.filterMap f).length < xs.length + 1
      omega
    · have ih := filterMap_short (f := f) ⟨a, h, e⟩
      cases f x with
      | none =>
        show (xs.filterMap f).length < xs.length + 1
        omega
      | some b =>
        show (xs.filterMap f).length + 1 < xs.length + 1
        omega
theorem swNC {c : Ct} {t e : Expr} {env : PySem.Env} (hsc : env.scope = c.sc) (h : noSwC c t e = true) : swappedStores [t] e env = pure none := by
  unfold noSwC at h
  rw [Bool.or_eq_true, Bool.and_eq_true, List.any_eq_true] at h
  rcases h with h | ⟨h0, a, ha, h⟩
  · exact swN h
  · cases t with
    | Tuple ts k p =>
      cases e with
      | Tuple vs k2 p2 =>
        have hn : (ts.filterMap fun (x : Expr) => match x with
            | .Name id pos => if env.kindOf id == some .local && pos.line == (ts.head?.map (·.pos.line)).getD 0 then some id else none
            | _ => none).length < ts.length := by
          refine filterMap_short ⟨a, ha, ?_⟩
          cases a with
          | Name x px =>
            have h : (!decide (c.sc.names.lookup x = some .local)) = true := h
            have kx : env.kindOf x ≠ some .local := by
              show env.scope.names.lookup x ≠ some .local
              rw [hsc]
              simpa using h
            have : (env.kindOf x == some .local) = false := by simpa using kx
            simp [this]
          | _ => rfl
        unfold swappedStores
        simp only []
        split
        · rfl
        · split
          · rfl
          · rw [if_pos (by
              rw [Bool.or_eq_true]
              left
              rw [bne_iff_ne]
              exact Nat.ne_of_lt hn)] <;> rfl
      | _ => rfl
    | _ => cases h0
theorem swC {e : Expr} {o : Option Expr} {l : Nat} {env : PySem.Env} (h : notComp e = true) : swapsWith e o l env = pure false := by
  cases e <;> first
    | rfl
    | cases h
theorem swS {t e : Expr} {l : Nat} {env : PySem.Env} (h : notName t = true ∨ notComp e = true) : swapsWithSole [t] e l env = pure false := by
  show swapsWith e (some t) l env = pure false
  rcases h with h | h
  · cases e <;> first
      | rfl
      | (cases t <;> first
        | rfl
        | cases h)
  · exact swC h

theorem swSC {c : Ct} {t e : Expr} {l : Nat} {env : PySem.Env} (hsc : env.scope = c.sc) (h : offLoc c t = true ∨ notComp e = true) : swapsWithSole [t] e l env = pure false := by
  show swapsWith e (some t) l env = pure false
  rcases h with h | h
  · cases t with
    | Name x px =>
      have h : (!decide (c.sc.names.lookup x = some .local)) = true := h
      have kx : env.kindOf x ≠ some .local := by
        show env.scope.names.lookup x ≠ some .local
        rw [hsc]
        simpa using h
      have kb : (env.kindOf x == some .local) = false := by simpa using kx
      cases e <;> first
        | rfl
        | (unfold swapsWith; simp [kb]; done)
    | _ => cases e <;> rfl
  · exact swC h
section
variable {bo : Option Addr} {cs : Cls'} {φ : Phi} {F0 H0 : Hp} {fr : Bool}
structure CokS (c : Ct) (X : Cx) (bo : Option Addr) (cs : Cls') (W : WX) (φ : Phi) : Prop where
  k : Cok c X bo cs W φ
  kind : X.env.scope.kind = .function
  hp : PassesOwn (model X.prog X.w) X.A X.env X.xe
def TS' (bo : Option Addr) (F0 H0 : Hp) (cs : Cls') (φ : Phi) (is : IS) : Prop := ∀ {c : Ct} {X : Cx} {W : WX} {fr : Bool} {s : Stmt}, CokS c X bo cs W φ → okS is c fr s = true → PS X s (liftS bo F0 H0 cs W fr (ex φ is))
def TB' (bo : Option Addr) (F0 H0 : Hp) (cs : Cls') (φ : Phi) (is : IS) : Prop := ∀ {c : Ct} {X : Cx} {W : WX} {fr : Bool} {ss : List Stmt}, CokS c X bo cs W φ → okB is c fr ss = true → PSs X ss (liftS bo F0 H0 cs W fr (ex φ is))
theorem set_of {c : Ct} {ow : Bool} {ie : IE} (h : setOk c ow ie = true) : iterOnly ie = false ∧ (ow = true → frE c ie = true) ∧ (ow = false → ovE ie = false) := by
  unfold setOk at h
  rw [Bool.and_eq_true, Bool.not_eq_true'] at h
  refine ⟨h.1, fun e => ?_, fun e => ?_⟩
  · rw [e] at h
    exact h.2
  · rw [e] at h
    simpa using h.2
theorem tgS_of {c : Ct} {X : Cx} {W : WX} (k : Cok c X bo cs W φ) {i : Nat} {x : Str} (h : tgOk c i x = true) (h2 : locOk c x = true) : X.N[i]? = some x ∧ X.env.scope.names.lookup x = some .local ∧ (bo ≠ none → i ≠ 0) := by
  unfold tgOk at h
  simp only [Bool.and_eq_true, Bool.or_eq_true, decide_eq_true_eq, Bool.not_eq_true'] at h
  obtain ⟨⟨h1, _⟩, h3⟩ := h
  refine ⟨by rw [k.N]; exact h1, by rw [k.sc]; exact of_decide_eq_true h2, fun hb => ?_⟩
  rcases h3 with h3 | h3
  · exact absurd (k.bx.mpr hb) (by rw [h3]; decide)
  · simpa using h3
theorem lift_R_f {X : Cx} {H0 : Hp} {W : WX} {ow : Bool} {g : Env → Bx → R P} (σ : L2.St) (H : Hp) (Q : VK) (h : lift bo H0 cs W (lR ow bo) g σ H Q) : lift bo H0 cs W (lF bo) g σ H Q := by
  cases ow with
  | true => exact h
  | false => exact lift_n_f σ H Q h

/-! views, back -/
theorem v1_of {α : Type} {l : List α} {a : α} (h : v1 l = some a) : l = [a] := by
  match l, h with
  | [b], h => cases h; rfl
theorem v2_of {α : Type} {l : List α} {a : α × α} (h : v2 l = some a) : l = [a.1, a.2] := by
  match l, h with
  | [b, c], h => cases h; rfl
theorem v3_of {α : Type} {l : List α} {a : α × α × α} (h : v3 l = some a) : l = [a.1, a.2.1, a.2.2] := by
  match l, h with
  | [b, c, d], h => cases h; rfl
theorem vAssign_of {s : Stmt} {q} (h : vAssign s = some q) : s = .Assign q.1 q.2.1 q.2.2 := by
  cases s with
  | Assign ts v p => cases h; rfl
  | _ => cases h
theorem vName_of {e : Expr} {q} (h : vName e = some q) : e = .Name q.1 q.2 := by
  cases e with
  | Name x p => cases h; rfl
  | _ => cases h
theorem vTup_of {e : Expr} {q} (h : vTup e = some q) : ∃ k p, e = .Tuple q k p := by
  cases e with
  | Tuple es k p => cases h; exact ⟨k, p, rfl⟩
  | _ => cases h
theorem vExpr_of {s : Stmt} {q} (h : vExpr s = some q) : ∃ p, s = .Expr q p := by
  cases s with
  | Expr e p => cases h; exact ⟨p, rfl⟩
  | _ => cases h
theorem vCall_of {e : Expr} {q} (h : vCall e = some q) : e = .Call q.1 q.2.1 q.2.2.1 q.2.2.2 := by
  cases e with
  | Call f es ks p => cases h; rfl
  | _ => cases h
theorem vAttr_of {e : Expr} {q} (h : vAttr e = some q) : e = .Attribute q.1 q.2.1 q.2.2 := by
  cases e with
  | Attribute a n p => cases h; rfl
  | _ => cases h
theorem vSub_of {e : Expr} {q} (h : vSub e = some q) : ∃ p, e = .Subscript q.1 q.2 p := by
  cases e with
  | Subscript a n p => cases h; exact ⟨p, rfl⟩
  | _ => cases h
theorem vAug_of {s : Stmt} {q} (h : vAug s = some q) : ∃ p, s = .AugAssign q.1 q.2.1 q.2.2 p := by
  cases s with
  | AugAssign t o v p => cases h; exact ⟨p, rfl⟩
  | _ => cases h
theorem vFor_of {s : Stmt} {q} (h : vFor s = some q) : ∃ p, s = .For q.1 q.2.1 q.2.2.1 q.2.2.2 p := by
  cases s with
  | For t i b e p => cases h; exact ⟨p, rfl⟩
  | _ => cases h
theorem vWhile_of {s : Stmt} {q} (h : vWhile s = some q) : ∃ p, s = .While q.1 q.2.1 q.2.2 p := by
  cases s with
  | While t b e p => cases h; exact ⟨p, rfl⟩
  | _ => cases h
theorem vIf_of {s : Stmt} {q} (h : vIf s = some q) : ∃ p, s = .If q.1 q.2.1 q.2.2 p := by
  cases s with
  | If t b e p => cases h; exact ⟨p, rfl⟩
  | _ => cases h
theorem vRet_of {s : Stmt} {q} (h : vRet s = some q) : ∃ p, s = .Return q p := by
  cases s with
  | Return v p => cases h; exact ⟨p, rfl⟩
  | _ => cases h
theorem noS_of {α : Type} {l : List α} (h : noS l = true) : l = [] := by
  cases l with
  | nil => rfl
  | cons a t => cases h
theorem asg1_of {s : Stmt} {f : Expr → Expr → Pos → Bool} (h : asg1 s f = true) : ∃ t v p, s = .Assign [t] v p ∧ f t v p = true := by
  obtain ⟨q, e1, h⟩ := oB_some h
  obtain ⟨t, e2, h⟩ := oB_some h
  have e3 := vAssign_of e1
  rw [v1_of e2] at e3
  exact ⟨t, _, _, e3, h⟩
theorem methS_of {s : Stmt} {f : Str → Str → Expr → Bool} (h : methS s f = true) : ∃ x px n pa v pc pos, s = .Expr (.Call (.Attribute (.Name x px) n pa) [v] [] pc) pos ∧ (pa.endLine == pc.line) = true ∧ f x n v = true := by
  obtain ⟨e, e1, h⟩ := oB_some h
  obtain ⟨q, e2, h⟩ := oB_some h
  obtain ⟨a, e3, h⟩ := oB_some h
  obtain ⟨x, e4, h⟩ := oB_some h
  obtain ⟨v, e5, h⟩ := oB_some h
  rw [Bool.and_eq_true, Bool.and_eq_true] at h
  obtain ⟨p, e6⟩ := vExpr_of e1
  have e7 := vCall_of e2
  have e8 := vAttr_of e3
  rw [vName_of e4] at e8
  rw [e8, v1_of e5, noS_of h.1.1] at e7
  rw [e7] at e6
  exact ⟨_, _, _, _, _, _, _, e6, h.1.2, h.2⟩
theorem lc_form {c : Ct} {e : IE} {y : Expr} {gs : List Comprehension} {scope : Scope} {pos : Pos} (h : okE e c (.ListComp y gs scope pos) = true) : ∃ own elt tg it ifs t i fs, e = .lc own elt tg it ifs ∧ gs = [⟨t, i, fs, 0⟩] := by
  cases e with
  | lc own elt tg it ifs =>
    match gs, h with
    | [⟨t, i, fs, 0⟩], h => exact ⟨own, elt, tg, it, ifs, t, i, fs, rfl, rfl⟩
  | trg as =>
    cases as with
    | cons a as => cases as <;> cases h
    | _ => cases h
  | lrg as =>
    cases as with
    | cons a as => cases as <;> cases h
    | _ => cases h
  | _ => cases h
theorem ts_set {i : Nat} {ow : Bool} {e : IE} : TS' bo F0 H0 cs φ (.set i ow e) := by
  intro c X W fr s k h
  have h : okSet c i ow e s = true := h
  obtain ⟨t, v, p, hs, h⟩ := asg1_of h
  obtain ⟨xx, e1, h⟩ := oB_some h
  obtain ⟨x, py⟩ := xx
  have qe1 := vName_of e1
  subst qe1
  subst hs
  have h : (tgOk c i x && locOk c x && okE e c v && setOk c ow e && (notComp v || isLc v)) = true := h
  · rw [Bool.and_eq_true, Bool.and_eq_true, Bool.and_eq_true, Bool.and_eq_true, Bool.or_eq_true] at h
    obtain ⟨⟨⟨⟨h1, h2⟩, h3⟩, h4⟩, h5⟩ := h
    obtain ⟨s1, s2, s3⟩ := set_of h4
    obtain ⟨t1, t2, t3⟩ := tgS_of k.k h1 h2
    have he := ((so_all (φ := φ) (bo := bo) (cs := cs) e).a (H0 := H0) (W := W) k.k h3 s1).1
    rcases h5 with h5 | h5
    · exact sS_set k.k.nd t1 t2 he s2 s3 (swC h5) t3
    · cases v with
      | ListComp y gs scope pos =>
        obtain ⟨own, elt, tg, it, ifs, t, it', fs, e1, e2⟩ := lc_form h3
        subst e1
        subst e2
        have kx : X.env.kindOf x = some .local := t2
        cases q : ((py.line == pos.line) && !(scope.names.any fun (n, k) => n == x && (k == .local || k == .cell))) with
        | false =>
          refine sS_set k.k.nd t1 t2 he s2 s3 ?_ t3
          unfold swapsWith
          simp only [bk_of k.kind, kx]
          show pure _ = pure false
          exact congrArg pure q
        | true =>
          rw [Bool.and_eq_true, Bool.not_eq_true'] at q
          have h : (blkOk c scope own && okE it c it' && notSet it' && (!needTup it || isTup t) && okT tg (c.inBlk scope) t && (tgIx tg).all own.contains && ifsB fs (isYes ifs) (fun f => okE ifs (c.inBlk scope) f && !iterOnly ifs) && okE elt (c.inBlk scope) y && !iterOnly elt && !ovE elt) = true := h3
          simp only [Bool.and_eq_true, Bool.not_eq_true', Bool.or_eq_true] at h
          obtain ⟨⟨⟨⟨⟨⟨⟨⟨⟨h1, h2⟩, h3⟩, h4⟩, h5⟩, h6⟩, h7⟩, h8⟩, h9⟩, h10⟩ := h
          obtain ⟨b1, b2, b3⟩ := blk_of k.k h1
          have hix : ∀ j, j ∈ tgIx tg → j ∈ own := fun j hj => by
            have := List.all_eq_true.mp h6 j hj
            simpa using this
          have hpi : PI X t it' (liftI bo H0 cs W false (ev φ it)) := by
            refine (so_all it).pi (st := false) k.k h2 (fun w => ?_) (fun z => nomatch z)
            rcases h4 with h4 | h4
            · rw [w] at h4
              cases h4
            · exact h4
          have hA := ps_setLc (ifs := fs) (tt := liftT bo H0 cs W0 (gT (ev φ ifs))) (te := lift bo H0 cs W0 (lM bo .n) (ev φ elt)) k.k.calm k.k.nd t1 t2 (sw_true (l := p.line) k.kind t2 q.1 q.2) hpi b1
            (fun s H C cl fp => okT_sound (φ := φ) (bo := bo) (H0 := H0) (k.k.inBlk s H scope C cl fp) h5) (fun s H C cl fp => ?_) (fun s H C cl fp => ((((so_all elt).a (H0 := H0) (W := W0) (k.k.inBlk s H scope C cl fp) h8 h9).1.ovf h10).n rfl)) (notSet_folded h3)
          · rw [b2] at hA
            exact setA hA (fun σ H Q w => lc_imp (by exact b3) (by exact hix) σ H Q (lift_R_f (X := X) σ H Q w)) t3
          · match fs, h7 with
            | [], h7 =>
              have e := isYes_eq (show isYes ifs = true from h7)
              subst e
              exact PTs.imp pts_nil fun σ H Q ⟨en, b, F, p, q⟩ => q F H (Ext.refl p.sub) p.box
            | [f], h7 =>
              have h7 : (okE ifs (c.inBlk scope) f && !iterOnly ifs) = true := h7
              simp only [Bool.and_eq_true, Bool.not_eq_true'] at h7
              exact pts_one ((so_all ifs).a (H0 := H0) (W := W0) (k.k.inBlk s H scope C cl fp) h7.1 h7.2).1.t
      | _ => cases h5
theorem ts_par2 {i j : Nat} {oi oj : Bool} {a b : IE} : TS' bo F0 H0 cs φ (.par2 i oi j oj a b) := by
  intro c X W fr s k h
  have h : okPar2 c i oi j oj a b s = true := h
  obtain ⟨t, vv, p, hs, h⟩ := asg1_of h
  obtain ⟨ts, e1, h⟩ := oB_some h
  obtain ⟨⟨n1, n2⟩, e2, h⟩ := oB_some h
  obtain ⟨⟨x, px⟩, e3, h⟩ := oB_some h
  obtain ⟨⟨y, py⟩, e4, h⟩ := oB_some h
  obtain ⟨vs, e5, h⟩ := oB_some h
  obtain ⟨⟨v, w⟩, e6, h⟩ := oB_some h
  obtain ⟨k1, p1, qe1⟩ := vTup_of e1
  obtain ⟨k2, p2, qe5⟩ := vTup_of e5
  have qe2 := v2_of e2
  have qe6 := v2_of e6
  have qe3 := vName_of e3
  have qe4 := vName_of e4
  dsimp only at qe2 qe3 qe4 qe6 h
  subst qe3 qe4 qe2 qe1 qe6 qe5 hs
  · skip
    have h : ((tgOk c i x && locOk c x && tgOk c j y && locOk c y && i != j && !(x == y)) && (okE a c v && setOk c oi a && okE b c w && setOk c oj b) && swOk [v, w] (py.line == px.line)) = true := h
    rw [Bool.and_eq_true, Bool.and_eq_true] at h
    obtain ⟨⟨hA, hB⟩, h11⟩ := h
    rw [Bool.and_eq_true, Bool.and_eq_true, Bool.and_eq_true, Bool.and_eq_true, Bool.and_eq_true, Bool.not_eq_true', bne_iff_ne] at hA
    rw [Bool.and_eq_true, Bool.and_eq_true, Bool.and_eq_true] at hB
    obtain ⟨⟨⟨⟨⟨h1, h2⟩, h3⟩, h4⟩, h5⟩, h6⟩ := hA
    obtain ⟨⟨⟨h7, h8⟩, h9⟩, h10⟩ := hB
    obtain ⟨t1, t2, t3⟩ := tgS_of k.k h1 h2
    obtain ⟨u1, u2, u3⟩ := tgS_of k.k h3 h4
    obtain ⟨s1, s2, s3⟩ := set_of h8
    obtain ⟨r1, r2, r3⟩ := set_of h10
    have hst : notStar v = true ∧ notStar w = true := by
      have := h11
      unfold swOk at this
      simp only [Bool.and_eq_true] at this
      simpa using this.1.1.2
    exact sS_par2 k.k.calm k.k.nd t1 u1 h5 t2 u2 ((so_all a).a (H0 := H0) (W := W) k.k h7 s1).1 ((so_all b).a (H0 := H0) (W := W) k.k h9 r1).1 s2 s3 r2 r3 hst.1 hst.2 (sw2 k.kind t2 u2 h6 h11) fun z => ⟨t3 z, u3 z⟩
theorem ts_par3 {i j l : Nat} {oi oj ol : Bool} {a b d : IE} : TS' bo F0 H0 cs φ (.par3 i oi j oj l ol a b d) := by
  intro c X W fr s k h
  have h : okPar3 c i oi j oj l ol a b d s = true := h
  obtain ⟨t, vv, p, hs, h⟩ := asg1_of h
  obtain ⟨ts, e1, h⟩ := oB_some h
  obtain ⟨⟨n1, n2, n3⟩, e2, h⟩ := oB_some h
  obtain ⟨⟨x, px⟩, e3, h⟩ := oB_some h
  obtain ⟨⟨y, py⟩, e4, h⟩ := oB_some h
  obtain ⟨⟨z, pz⟩, e7, h⟩ := oB_some h
  obtain ⟨vs, e5, h⟩ := oB_some h
  obtain ⟨⟨v, w, u⟩, e6, h⟩ := oB_some h
  obtain ⟨k1, p1, qe1⟩ := vTup_of e1
  obtain ⟨k2, p2, qe5⟩ := vTup_of e5
  have qe2 := v3_of e2
  have qe6 := v3_of e6
  have qe3 := vName_of e3
  have qe4 := vName_of e4
  have qe7 := vName_of e7
  dsimp only at qe2 qe3 qe4 qe7 qe6 h
  subst qe3 qe4 qe7 qe2 qe1 qe6 qe5 hs
  · skip
    have h : ((tgOk c i x && locOk c x && tgOk c j y && locOk c y && tgOk c l z && locOk c z) && (i != j && i != l && j != l && !(x == y) && !(x == z) && !(y == z)) &&
      (okE a c v && setOk c oi a && okE b c w && setOk c oj b && okE d c u && setOk c ol d) && swOk [v, w, u] ((py.line == px.line) && (pz.line == px.line))) = true := h
    rw [Bool.and_eq_true, Bool.and_eq_true, Bool.and_eq_true] at h
    obtain ⟨⟨⟨hA, hB⟩, hC⟩, h11⟩ := h
    rw [Bool.and_eq_true, Bool.and_eq_true, Bool.and_eq_true, Bool.and_eq_true, Bool.and_eq_true] at hA
    rw [Bool.and_eq_true, Bool.and_eq_true, Bool.and_eq_true, Bool.and_eq_true, Bool.and_eq_true, Bool.not_eq_true', Bool.not_eq_true', Bool.not_eq_true', bne_iff_ne, bne_iff_ne, bne_iff_ne] at hB
    rw [Bool.and_eq_true, Bool.and_eq_true, Bool.and_eq_true, Bool.and_eq_true, Bool.and_eq_true] at hC
    obtain ⟨⟨⟨⟨⟨h1, h2⟩, h3⟩, h4⟩, h5⟩, h6⟩ := hA
    obtain ⟨⟨⟨⟨⟨n1, n2⟩, n3⟩, m1⟩, m2⟩, m3⟩ := hB
    obtain ⟨⟨⟨⟨⟨a1, a2⟩, a3⟩, a4⟩, a5⟩, a6⟩ := hC
    obtain ⟨t1, t2, t3⟩ := tgS_of k.k h1 h2
    obtain ⟨u1, u2, u3⟩ := tgS_of k.k h3 h4
    obtain ⟨v1, v2, v3⟩ := tgS_of k.k h5 h6
    obtain ⟨s1, s2, s3⟩ := set_of a2
    obtain ⟨r1, r2, r3⟩ := set_of a4
    obtain ⟨q1, q2, q3⟩ := set_of a6
    have hst : notStar v = true ∧ notStar w = true ∧ notStar u = true := by
      have := h11
      unfold swOk at this
      simp only [Bool.and_eq_true] at this
      simpa using this.1.1.2
    exact sS_par3 k.k.calm k.k.nd t1 u1 v1 n1 n2 n3 t2 u2 v2 ((so_all a).a (H0 := H0) (W := W) k.k a1 s1).1 ((so_all b).a (H0 := H0) (W := W) k.k a3 r1).1 ((so_all d).a (H0 := H0) (W := W) k.k a5 q1).1 s2 s3 r2 r3 q2 q3 hst.1 hst.2.1 hst.2.2 (sw3 k.kind t2 u2 v2 m1 m2 m3 h11) fun z => ⟨t3 z, u3 z, v3 z⟩
theorem ts_sett {tg : Tg} {e : IE} : TS' bo F0 H0 cs φ (.sett tg e) := by
  intro c X W fr s k h
  have h : okSett c tg e s = true := h
  obtain ⟨t, v, p, hs, h⟩ := asg1_of h
  have hh := h
  subst hs
  have h := hh
  · skip
    have h : (okT tg c t && okE e c v && !iterOnly e && !ovE e && noSwC c t v && notStar t && (offLoc c t || notComp v)) = true := h
    simp only [Bool.and_eq_true, Bool.not_eq_true', Bool.or_eq_true] at h
    obtain ⟨⟨⟨⟨⟨⟨h1, h2⟩, h3⟩, h4⟩, h5⟩, h6⟩, h7⟩ := h
    exact sS_sett (((so_all e).a (H0 := H0) (W := W) k.k h2 h3).1.ovf h4) (okT_sound k.k h1) (swSC k.k.sc h7) (swNC k.k.sc h5) h6
theorem ts_app {i : Nat} {e : IE} : TS' bo F0 H0 cs φ (.app i e) := by
  intro c X W fr s k h
  have h : okApp c i e s = true := h
  obtain ⟨x, px, n, pa, v, pc, pos, hs, h7, h⟩ := methS_of h
  have hh := h
  subst hs
  have h := hh
  · skip
    simp only [Bool.and_eq_true, Bool.not_eq_true', decide_eq_true_eq] at h
    obtain ⟨⟨⟨⟨⟨h1, h2⟩, h3⟩, h4⟩, h5⟩, h6⟩ := h
    subst h1
    exact sS_app (nm_of k.k h2) (((so_all e).a (H0 := H0) (W := W) k.k h3 h4).1.ovf h5) h6 h7
theorem ts_ext {i : Nat} {e : IE} : TS' bo F0 H0 cs φ (.ext i e) := by
  intro c X W fr s k h
  have h : okExt c i e s = true := h
  obtain ⟨x, px, n, pa, v, pc, pos, hs, h7, h⟩ := methS_of h
  have hh := h
  subst hs
  have h := hh
  · skip
    simp only [Bool.and_eq_true, Bool.not_eq_true', decide_eq_true_eq] at h
    obtain ⟨⟨⟨⟨h1, h2⟩, h3⟩, h4⟩, h6⟩ := h
    subst h1
    exact sS_ext (nm_of k.k h2) ((so_all e).a (H0 := H0) (W := W) k.k h3 h4).1 h6 h7
theorem ts_stix {i : Nat} {k' e : IE} : TS' bo F0 H0 cs φ (.stix i k' e) := by
  intro c X W fr s k h
  have h : okStix c i k' e s = true := h
  obtain ⟨t, v, p, hs, h⟩ := asg1_of h
  obtain ⟨⟨o, y⟩, e1, h⟩ := oB_some h
  obtain ⟨⟨x, px⟩, e2, h⟩ := oB_some h
  obtain ⟨p2, qe1⟩ := vSub_of e1
  have qe2 := vName_of e2
  dsimp only at qe1 qe2 h
  have hh := h
  subst qe2 qe1 hs
  have h := hh
  · rw [Bool.and_eq_true, Bool.and_eq_true, Bool.and_eq_true, Bool.and_eq_true, Bool.and_eq_true, Bool.and_eq_true, Bool.not_eq_true', Bool.not_eq_true', Bool.not_eq_true'] at h
    obtain ⟨⟨⟨⟨⟨⟨h1, h2⟩, h3⟩, h4⟩, h5⟩, h6⟩, h7⟩ := h
    exact sS_stix (nm_of k.k h1) (((so_all e).a (H0 := H0) (W := W) k.k h5 h6).1.ovf h7) ((so_all k').a (H0 := H0) (W := W) k.k h2 h3).1 h4 (swS (.inl rfl)) (swN rfl)
theorem isIntC_of {e : Expr} {j : Nat} (h : isIntC e j = true) : ∃ k p, e = .Constant (.int ((j : Nat) : Int)) k p := by
  unfold isIntC at h
  split at h
  · rw [of_decide_eq_true h]
    exact ⟨_, _, rfl⟩
  · cases h
theorem ts_bset {j : Nat} {e : IE} : TS' bo F0 H0 cs φ (.bset j e) := by
  intro c X W fr s k h
  have h : okBset c j e s = true := h
  obtain ⟨t, v, p, hs, h⟩ := asg1_of h
  obtain ⟨⟨o, y⟩, e1, h⟩ := oB_some h
  obtain ⟨⟨x, px⟩, e2, h⟩ := oB_some h
  obtain ⟨p2, qe1⟩ := vSub_of e1
  have qe2 := vName_of e2
  dsimp only at qe1 qe2 h
  have hh := h
  subst qe2 qe1 hs
  have h := hh
  rw [Bool.and_eq_true, Bool.and_eq_true, Bool.and_eq_true, Bool.and_eq_true, Bool.and_eq_true, Bool.not_eq_true', Bool.not_eq_true'] at h
  obtain ⟨⟨⟨⟨⟨h1, h2⟩, h3⟩, h4⟩, h5⟩, h6⟩ := h
  obtain ⟨k2, p3, e3⟩ := isIntC_of h3
  subst e3
  exact sS_bset (k.k.bx.mp h1) (nm_of k.k h2) (((so_all e).a (H0 := H0) (W := W) k.k h4 h5).1.ovf h6) (swS (.inl rfl)) (swN rfl)
theorem ip_of {X : Cx} {op : Op} {o : Operator} (h : augOk op o = true) : PIp X o (ipI (augF op)) := by
  cases op <;> cases o <;> first
    | (cases h; done)
    | exact ip_add
    | exact ip_sub
theorem ts_aug {i : Nat} {op : Op} {e : IE} : TS' bo F0 H0 cs φ (.aug i op e) := by
  intro c X W fr s k h
  have h : okAug c i op e s = true := h
  obtain ⟨⟨t, o, v⟩, e1, h⟩ := oB_some h
  obtain ⟨⟨x, px⟩, e2, h⟩ := oB_some h
  obtain ⟨p, qe1⟩ := vAug_of e1
  have qe2 := vName_of e2
  dsimp only at qe1 qe2 h
  have hh := h
  subst qe2 qe1
  have h := hh
  · have h : (nmOk c i x && locOk c x && (!c.bx || i != 0) && okE e c v && !iterOnly e && augOk op o) = true := h
    rw [Bool.and_eq_true, Bool.and_eq_true, Bool.and_eq_true, Bool.and_eq_true, Bool.and_eq_true, Bool.not_eq_true'] at h
    obtain ⟨⟨⟨⟨⟨h1, h2⟩, h3⟩, h4⟩, h5⟩, h6⟩ := h
    have hx : X.env.scope.names.lookup x = some .local := by rw [k.k.sc]; exact of_decide_eq_true h2
    have h0 : bo ≠ none → i ≠ 0 := fun hb => by
      simp only [Bool.or_eq_true, Bool.not_eq_true'] at h3
      rcases h3 with h3 | h3
      · exact absurd (k.k.bx.mpr hb) (by rw [h3]; decide)
      · simpa using h3
    exact sS_aug (F0 := F0) (fr := fr) (nm_of k.k h1) k.k.nd hx (ip_of h6) ((so_all e).a (H0 := H0) (W := W) k.k h4 h5).1 h0
theorem ts_ret {e : IE} : TS' bo F0 H0 cs φ (.ret e) := by
  intro c X W fr s k h
  have h : okRet c fr e s = true := h
  obtain ⟨q, e1, h⟩ := oB_some h
  obtain ⟨v, e2, h⟩ := oB_some h
  obtain ⟨p, qe1⟩ := vRet_of e1
  have hh := h
  subst e2 qe1
  have h := hh
  · have h : (okE e c v && !iterOnly e && (if ovE e then fr && isNm v else if fr then frE c e else true)) = true := h
    rw [Bool.and_eq_true, Bool.and_eq_true, Bool.not_eq_true'] at h
    obtain ⟨⟨h1, h2⟩, h3⟩ := h
    cases q : ovE e with
    | true =>
      rw [q, if_pos rfl, Bool.and_eq_true] at h3
      cases e with
      | ovar i =>
        cases v with
        | Name x p => exact sS_retO (nm_of k.k (show nmOk c i x = true from h1)) h3.1
        | _ => cases h3.2
      | _ => cases q
    | false =>
      rw [q, if_neg Bool.false_ne_true] at h3
      have he := ((so_all e).a (H0 := H0) (W := W) k.k h1 h2).1
      rw [q] at he
      refine sS_ret he (fun z => ?_) (fun _ => rfl)
      rw [z, if_pos rfl] at h3
      exact h3
theorem ts_drop {e : IE} : TS' bo F0 H0 cs φ (.drop e) := by
  intro c X W fr s k h
  have h : okDrop c e s = true := h
  obtain ⟨v, e1, h⟩ := oB_some h
  obtain ⟨p, qe1⟩ := vExpr_of e1
  have hh := h
  subst qe1
  have h := hh
  · have h : (okE e c v && !iterOnly e && notComp v) = true := h
    rw [Bool.and_eq_true, Bool.and_eq_true, Bool.not_eq_true'] at h
    exact sS_drop ((so_all e).a (H0 := H0) (W := W) k.k h.1.1 h.1.2).1 (swC h.2)
theorem ts_retN : TS' bo F0 H0 cs φ .retn := by
  intro c X W fr s k h
  have h : okRetN s = true := h
  obtain ⟨q, e1, h⟩ := oB_some h
  obtain ⟨p, qe1⟩ := vRet_of e1
  have hh := h
  subst qe1
  have h := hh
  cases q with
  | none => exact sS_retN
  | some v => cases h
theorem ts_nop : TS' bo F0 H0 cs φ .nop := by
  intro c X W fr s k h
  have h : okPass s = true := h
  cases s with
  | Pass p => exact sS_pass
  | _ => cases h
theorem ts_for {tg : Tg} {it : IE} {body : IS} (hb : TB' bo F0 H0 cs φ body) : TS' bo F0 H0 cs φ (.forr tg it body) := by
  intro c X W fr s k h
  have h : okFor c tg it (fun b => okB body c fr b) s = true := h
  obtain ⟨⟨t, i, b, els⟩, e1, h⟩ := oB_some h
  obtain ⟨p, qe1⟩ := vFor_of e1
  dsimp only at qe1 h
  · rw [Bool.and_eq_true, Bool.and_eq_true, Bool.and_eq_true, Bool.and_eq_true, Bool.and_eq_true, Bool.and_eq_true, Bool.not_eq_true', Bool.or_eq_true, Bool.not_eq_true'] at h
    obtain ⟨⟨⟨⟨⟨⟨h1, h2⟩, h3⟩, h4⟩, h5⟩, hn⟩, h6⟩ := h
    have hn := noS_of hn
    subst hn qe1
    refine sS_for k.hp k.k.calm ((so_all it).pi (st := true) k.k h2 (fun w => ?_) (fun _ => h5)) (okT_sound k.k h1) (hb k h6) h3
    rcases h4 with h4 | h4
    · rw [w] at h4
      cases h4
    · exact h4
theorem ts_while {t : IE} {body : IS} (hb : TB' bo F0 H0 cs φ body) : TS' bo F0 H0 cs φ (.whil t body) := by
  intro c X W fr s k h
  have h : okWhile c t (fun b => okB body c fr b) s = true := h
  obtain ⟨⟨x, b, els⟩, e1, h⟩ := oB_some h
  obtain ⟨p, qe1⟩ := vWhile_of e1
  dsimp only at qe1 h
  rw [Bool.and_eq_true, Bool.and_eq_true, Bool.and_eq_true, Bool.not_eq_true'] at h
  have hn := noS_of h.1.2
  have hh := h
  subst hn qe1
  have h := hh
  exact sS_while (n := fuel) k.hp ((so_all t).a (H0 := H0) (W := W) k.k h.1.1.1 h.1.1.2).1 (hb k h.2)
theorem ts_if {t : IE} {a b : IS} (ha : TB' bo F0 H0 cs φ a) (hb : TB' bo F0 H0 cs φ b) : TS' bo F0 H0 cs φ (.iff t a b) := by
  intro c X W fr s k h
  have h : okIf c t (fun p => okB a c fr p) (fun q => okB b c fr q) s = true := h
  obtain ⟨⟨x, p, q⟩, e1, h⟩ := oB_some h
  obtain ⟨pos, qe1⟩ := vIf_of e1
  dsimp only at qe1 h
  have hh := h
  subst qe1
  have h := hh
  · have h : (okE t c x && !iterOnly t && okB a c fr p && okB b c fr q) = true := h
    rw [Bool.and_eq_true, Bool.and_eq_true, Bool.and_eq_true, Bool.not_eq_true'] at h
    exact sS_if ((so_all t).a (H0 := H0) (W := W) k.k h.1.1.1 h.1.1.2).1 (ha k h.1.2) (hb k h.2)
theorem tb_nop : TB' bo F0 H0 cs φ .nop := by
  intro c X W fr ss k h
  match ss, h with
  | [], h => exact sS_nil
theorem tb_seq {a b : IS} (ha : TS' bo F0 H0 cs φ a) (hb : TB' bo F0 H0 cs φ b) : TB' bo F0 H0 cs φ (.seq a b) := by
  intro c X W fr ss k h
  have frz : isFrz a = true → ∀ ss, okB b c fr ss = true → PSs X ss (liftS bo F0 H0 cs W fr (ex φ (.seq a b))) := fun q ss hz => by
    cases a with
    | frz i => exact sS_frz (hb k hz)
    | _ => cases q
  match ss, h with
  | [], h =>
    have h : (isFrz a && okB b c fr []) = true := h
    rw [Bool.and_eq_true] at h
    exact frz h.1 [] h.2
  | s :: ss, h =>
    have h : (if isFrz a then okB b c fr (s :: ss) else okS a c fr s && okB b c fr ss) = true := h
    cases q : isFrz a with
    | true =>
      rw [q, if_pos rfl] at h
      exact frz q _ h
    | false =>
      rw [q, if_neg Bool.false_ne_true, Bool.and_eq_true] at h
      exact sS_cons (ha k h.1) (hb k h.2)
theorem bad_s {is : IS} (h : ∀ c fr s, okS is c fr s = false) : TS' bo F0 H0 cs φ is := by
  intro c X W fr s k h'
  rw [h] at h'
  cases h'
theorem bad_b {is : IS} (h : ∀ c fr s, okB is c fr s = false) : TB' bo F0 H0 cs φ is := by
  intro c X W fr s k h'
  rw [h] at h'
  cases h'
theorem st_all (is : IS) : TS' bo F0 H0 cs φ is ∧ TB' bo F0 H0 cs φ is := by
  induction is with
  | nop => exact ⟨ts_nop, tb_nop⟩
  | seq a b ha hb => exact ⟨bad_s fun _ _ _ => rfl, tb_seq ha.1 hb.2⟩
  | set i ow e => exact ⟨ts_set, bad_b fun _ _ _ => rfl⟩
  | par2 i oi j oj a b => exact ⟨ts_par2, bad_b fun _ _ _ => rfl⟩
  | par3 i oi j oj l ol a b d => exact ⟨ts_par3, bad_b fun _ _ _ => rfl⟩
  | sett tg e => exact ⟨ts_sett, bad_b fun _ _ _ => rfl⟩
  | app i e => exact ⟨ts_app, bad_b fun _ _ _ => rfl⟩
  | ext i e => exact ⟨ts_ext, bad_b fun _ _ _ => rfl⟩
  | pop j i e => exact ⟨bad_s fun _ _ _ => rfl, bad_b fun _ _ _ => rfl⟩
  | stix i k e => exact ⟨ts_stix, bad_b fun _ _ _ => rfl⟩
  | bset j e => exact ⟨ts_bset, bad_b fun _ _ _ => rfl⟩
  | augx i k op e => exact ⟨bad_s fun _ _ _ => rfl, bad_b fun _ _ _ => rfl⟩
  | aug i op e => exact ⟨ts_aug, bad_b fun _ _ _ => rfl⟩
  | frz i => exact ⟨bad_s fun _ _ _ => rfl, bad_b fun _ _ _ => rfl⟩
  | forr tg it body hb => exact ⟨ts_for hb.2, bad_b fun _ _ _ => rfl⟩
  | whil t body hb => exact ⟨ts_while hb.2, bad_b fun _ _ _ => rfl⟩
  | iff t a b ha hb => exact ⟨ts_if ha.2 hb.2, bad_b fun _ _ _ => rfl⟩
  | ret e => exact ⟨ts_ret, bad_b fun _ _ _ => rfl⟩
  | retn => exact ⟨ts_retN, bad_b fun _ _ _ => rfl⟩
  | drop e => exact ⟨ts_drop, bad_b fun _ _ _ => rfl⟩
  | raise c e => exact ⟨bad_s fun _ _ _ => rfl, bad_b fun _ _ _ => rfl⟩
end
end Dv
/-! text DK -/
set_option Elab.async false
set_option linter.all false
set_option maxRecDepth 100000
set_option maxHeartbeats 4000000
namespace Dv
open PySem PySem.Spec L2

/-! ### a def's slots at its start -/
theorem slots_rep {bo : Option Addr} {H0 F H : Hp} : ∀ {ws : List V} {ds : List P}, RpA F ws ds → ∀ (m m' : Nat) (i : Nat) (s : Sl), (ds.map Sl.v ++ List.replicate m Sl.no)[i]? = some s → SlRep bo H0 F H ((((ws.map some ++ List.replicate m' none : List (Option V))[i]?)).getD none) s
  | _, _, .nil, m, m', i, s, h => by
    rw [List.map_nil, List.nil_append, List.getElem?_replicate] at h
    split at h
    · cases h
      trivial
    · cases h
  | _, _, .cons r t, m, m', 0, s, h => by
    simp at h
    subst h
    exact ⟨_, rfl, r⟩
  | _, _, .cons (vs := vs) (ds := ds) r t, m, m', i + 1, s, h => by
    have := slots_rep (bo := bo) (H0 := H0) (H := H) t m m' i s (by simpa using h)
    simpa using this
theorem slots_no : ∀ (ds : List P) (m i : Nat) (d : P), (ds.map Sl.v ++ List.replicate m Sl.no)[i]? ≠ some (.o d)
  | [], m, i, d => by
    rw [List.map_nil, List.nil_append, List.getElem?_replicate]
    intro h
    split at h <;> cases h
  | x :: xs, m, 0, d => by simp
  | x :: xs, m, i + 1, d => by
    have := slots_no xs m i d
    simpa using this
theorem start_env {bo : Option Addr} {F H : Hp} {N : List Str} {bx : Bool} {n : Nat} {vs ws : List V} {ds : List P} (ra : RpA F ws ds) (h1 : bx = true → ∃ β, bo = some β ∧ vs = .ref β :: ws) (h2 : bx = false → bo = none ∧ vs = ws) (hn : n = N.length) (hl : vs.length ≤ n) :
    EnvRep bo H F H (L2.start N vs) (startE bx n ds) := by
  have l := ra.length
  cases bx with
  | false =>
    obtain ⟨_, rfl⟩ := h2 rfl
    refine ⟨?_, fun i s h => slots_rep ra _ _ i s (by simpa [startE] using h), fun i j a di dj _ h => absurd h ?_⟩
    · unfold startE L2.start
      simp
      omega
    · have := slots_no ds (n - ds.length - 0) i di
      unfold startE
      simpa using this
  | true =>
    obtain ⟨β, _, rfl⟩ := h1 rfl
    refine ⟨?_, fun i s h => ?_, fun i j a di dj _ h => absurd h ?_⟩
    · unfold startE L2.start
      simp at hl ⊢
      omega
    · cases i with
      | zero =>
        unfold startE at h
        simp at h
        subst h
        trivial
      | succ i =>
        unfold startE at h
        have := slots_rep (bo := bo) (H0 := H) (H := H) ra (n - ds.length - 1) (N.length - (ws.length + 1)) i s (by simpa using h)
        unfold L2.start
        simpa using this
    · unfold startE
      cases i with
      | zero => simp
      | succ i =>
        have := slots_no ds (n - ds.length - 1) i di
        simpa using this

/-! ### a def from its code -/
section
variable {Pr : Program} {w : World} {K : PySem.W.Frag} {mg : Str → Option Value} {base : Heap} {cs : Cls'}
theorem fn_code {x : Str} {st : Stmt} {f : Addr} {fd : FuncData} {N ps : List Str} {k : Nat} {fn : Fn} {c : Ct} {φ : Phi} (F : Fun K x x st f fd) (S : FnScope N ps (defScope st))
    (c1 : c.sc = defScope st) (c2 : c.N = N) (c3 : c.blk = none) (c4 : c.bx = fn.bx) (hs : fn.slots = N.length) (hpl : ps.length ≤ N.length) (ok : okB fn.body c fn.fr (defBody st) = true) (blt : ∀ x ∈ c.blt, mg x = none)
    (con : ∀ q ∈ c.con, ∃ v u, mg q.1 = some u ∧ RelV v u ∧ Flt v q.2)
    (fns : ∀ g q, c.fns[g]? = some q → ∃ (fa : Addr) (fd : FuncData) (ps : List Str), mg q.1 = some (.ref fa) ∧ PySem.W.keepIn K (.ref fa) = true ∧ FnOk Pr w K mg base (L2.CX Pr w) k fa fd ps (spOf cs q.2.1 q.2.2.1 q.2.2.2 (φ g)) ∧ Binds K fd ps [])
    (kws : ∀ kw ∈ c.kws, ∀ q, c.fns[kw.1]? = some q → ∃ (fa : Addr) (fd : FuncData) (ps : List Str), mg q.1 = some (.ref fa) ∧ PySem.W.keepIn K (.ref fa) = true ∧ FnOk Pr w K mg base (L2.CX Pr w) k fa fd ps (spOf cs false q.2.2.1 q.2.2.2 (φ kw.1)) ∧ KwB fd ps kw.2.1 kw.2.2.1 kw.2.2.2) :
    FnOk Pr w K mg base (L2.CX Pr w) (k + 1) f fd ps (spOf cs fn.bx fn.fr ps.length (run φ fn)) := by
  refine F.okX S (fun vs H Q E h => h.1) (fun cdv A outer s H vs Q E hr h => ?_)
  obtain ⟨hl, bo, F0, b, ws, ds, h1, h2, sub, box, ra, hf⟩ := h
  have hbx : c.bx = true ↔ bo ≠ none := by
    rw [c4]
    cases e : fn.bx with
    | false =>
      obtain ⟨z, _⟩ := h2 e
      exact ⟨(fun q => nomatch q), fun q => absurd z q⟩
    | true =>
      obtain ⟨β, z, _⟩ := h1 e
      exact ⟨(fun _ q => by rw [z] at q; cases q), fun _ => rfl⟩
  have ck : CokS c (cxOf (L2.CX Pr w) Pr w K mg base N x (defScope st) f cdv A outer s H E) bo cs (fun cls dd _ H' => E cls dd H') φ :=
    { k := { calm := rfl, N := c2.symm, nd := S.nd, sc := c1.symm, fn := (fun y => by unfold fnOk; rw [c3]; rfl), bx := hbx, hu := (by have := hr.un; show (A.deeper _).units + 70 < _; omega), blt := blt, con := con,
             fns := (fun g q hq => by
               obtain ⟨fa, fd, ps, m1, m2, m3, m4⟩ := fns g q hq
               exact ⟨fa, fd, ps, k, m1, m2, m3, m4, hr⟩),
             kws := (fun kw hk q hq => by
               obtain ⟨fa, fd, ps, m1, m2, m3, m4⟩ := kws kw hk q hq
               exact ⟨fa, fd, ps, k, m1, m2, m3, m4, hr⟩),
             tk := takes_of rfl rfl rfl rfl }, kind := S.kind, hp := passes_of rfl }
  have T := (st_all (bo := bo) (cs := cs) (φ := φ) (F0 := F0) (H0 := H) fn.body).2 ck ok
  refine ⟨_, T, startE fn.bx fn.slots ds, b, F0, ⟨sub, start_env ra h1 h2 hs (by rw [hl, hs]; exact hpl), box, fun β hβ => ?_, fun a z => z⟩, Ext.refl sub, ?_⟩
  · cases e : fn.bx with
    | false =>
      obtain ⟨z, _⟩ := h2 e
      rw [z] at hβ
      cases hβ
    | true =>
      obtain ⟨γ, z, rfl⟩ := h1 e
      rw [z] at hβ
      cases hβ
      rfl
  · unfold run at hf
    split at hf
    · cases q : ex φ fn.body (startE fn.bx fn.slots ds) b with
      | nx e b1 =>
        rw [q] at hf
        exact fun σ F1 H1 p1 x1 _ => hf .non F1 H1 x1 p1.box lR_non
      | rt d b1 =>
        rw [q] at hf
        exact hf
      | xx e c d b1 =>
        rw [q] at hf
        exact fun σ dd F1 H1 p1 x1 r => hf dd F1 H1 x1 p1.box r
      | no =>
        rw [q] at hf
        exact hf.elim
    · exact hf.elim

/-! ### all defs of a text -/
def Txt'.ct (t : Txt') (d : DefD) : Ct := { sc := defScope d.st, N := d.N, blk := none, bx := d.fn.bx, blt := t.blt, con := t.con, fns := fnsOf t.DL, kws := t.kws }
def scB (N ps : List Str) (sc : Scope) : Bool :=
  decide (sc.kind = .function) && !sc.isCoroutine && !sc.isGenerator && decide N.Nodup && decide (N.take ps.length = ps) && (ps.all fun x => decide (sc.names.lookup x = some .local) || decide (sc.names.lookup x = some .cell)) && (sc.names.all fun y => !decide (y.2 = .free))
theorem scB_of {N ps : List Str} {sc : Scope} (h : scB N ps sc = true) : FnScope N ps sc := by
  unfold scB at h
  simp only [Bool.and_eq_true, Bool.not_eq_true', decide_eq_true_eq, List.all_eq_true, Bool.or_eq_true, decide_eq_false_iff_not] at h
  obtain ⟨⟨⟨⟨⟨⟨h1, h2⟩, h3⟩, h4⟩, h5⟩, h6⟩, h7⟩ := h
  exact ⟨h1, h2, h3, h4, h5, h6, h7⟩
def okDef (t : Txt') (d : DefD) : Bool := scB d.N d.ps (defScope d.st) && decide (d.fn.slots = d.N.length) && decide (d.ps.length ≤ d.N.length) && okB d.fn.body (t.ct d) d.fn.fr (defBody d.st)
/-- what stands behind the top -/
structure AtTop (K : PySem.W.Frag) (mg : Str → Option Value) (t : Txt') (fa : Nat → Addr) (fd : Nat → FuncData) : Prop where
  fn : ∀ f d, t.DL[f]? = some d → Fun K d.x d.x d.st (fa f) (fd f) ∧ Binds K (fd f) d.ps [] ∧ mg d.x = some (.ref (fa f))
  blt : ∀ x ∈ t.blt, mg x = none
  con : ∀ q ∈ t.con, ∃ v u, mg q.1 = some u ∧ RelV v u ∧ Flt v q.2
  kws : ∀ kw ∈ t.kws, ∀ d, t.DL[kw.1]? = some d → d.fn.bx = false ∧ KwB (fd kw.1) d.ps kw.2.1 kw.2.2.1 kw.2.2.2
theorem fnsOf_get {DL : List DefD} {g : Nat} {q : Str × Bool × Bool × Nat} (h : (fnsOf DL)[g]? = some q) : ∃ d, DL[g]? = some d ∧ q = (d.x, d.fn.bx, d.fn.fr, d.ps.length) := by
  unfold fnsOf at h
  rw [List.getElem?_map] at h
  cases e : DL[g]? with
  | none =>
    rw [e] at h
    cases h
  | some d =>
    rw [e] at h
    cases h
    exact ⟨d, rfl, rfl⟩
theorem all_ok {t : Txt'} {fa : Nat → Addr} {fd : Nat → FuncData} (hall : t.DL.all (okDef t) = true) (T : AtTop K mg t fa fd) :
    ∀ (k f : Nat) (d : DefD), t.DL[f]? = some d → FnOk Pr w K mg base (L2.CX Pr w) k (fa f) (fd f) d.ps (spOf cs d.fn.bx d.fn.fr d.ps.length (fnN (tblOf t.DL) k f))
  | 0, f, d, hd => by
    have no : ∀ vs H Q E, ¬ spOf cs d.fn.bx d.fn.fr d.ps.length (fnN (tblOf t.DL) 0 f) vs H Q E := fun vs H Q E h => by
      obtain ⟨_, bo, F, b, ws, ds, _, _, _, _, _, h⟩ := h
      exact h.elim
    exact ⟨fun vs H Q E h => absurd h (no vs H Q E), fun A outer s H args us vs Q E _ _ _ _ h => absurd h (no vs H Q E)⟩
  | k + 1, f, d, hd => by
    have hok := List.all_eq_true.mp hall d (List.mem_of_getElem? hd)
    unfold okDef at hok
    rw [Bool.and_eq_true, Bool.and_eq_true, Bool.and_eq_true] at hok
    obtain ⟨⟨⟨o1, o2⟩, o3⟩, o4⟩ := hok
    have e : fnN (tblOf t.DL) (k + 1) f = fun as b => run (fnN (tblOf t.DL) k) d.fn as b := by
      funext as b
      show (match tblOf t.DL f with | some (.code f) => run (fnN (tblOf t.DL) k) f as b | some (.prim g) => g as b | none => .no) = _
      unfold tblOf
      rw [hd] <;> rfl
    rw [e]
    obtain ⟨F, _, _⟩ := T.fn f d hd
    refine fn_code (k := k) (c := t.ct d) F (scB_of o1) rfl rfl rfl rfl (of_decide_eq_true o2) (of_decide_eq_true o3) o4 T.blt T.con (fun g q hq => ?_) (fun kw hk q hq => ?_)
    · obtain ⟨d', hd', rfl⟩ := fnsOf_get hq
      obtain ⟨F', B', m'⟩ := T.fn g d' hd'
      exact ⟨_, _, _, m', F'.kp, all_ok hall T k g d' hd', B'⟩
    · obtain ⟨d', hd', rfl⟩ := fnsOf_get hq
      obtain ⟨F', B', m'⟩ := T.fn _ d' hd'
      obtain ⟨b1, b2⟩ := T.kws kw hk d' hd'
      have h := all_ok hall T k kw.1 d' hd'
      rw [b1] at h
      exact ⟨_, _, _, m', F'.kp, h, b2⟩
end
end Dv
/-! text DL -/
set_option Elab.async false
set_option linter.all false
set_option maxRecDepth 100000
set_option maxHeartbeats 4000000
namespace Dv
open PySem PySem.Spec L2

/-! ### the first numbers of the script -/
def spCells (K : PySem.W.Frag) : Sp := fun vs H Q _ => ∃ (a : Addr) (ns : List Int) (top : Int), vs = [.ref a, .int top] ∧ SqL K H a (ns.map V.int) ∧ ns.length ≤ 63 ∧ 0 < top ∧ top ≤ 3 ∧
  ∀ (xs : List Int) (p : Addr) (H' : Hp), 0 < xs.length → xs.length ≤ 3 → Same H H' → H p = none → H' p = some (.lst (xs.map V.int)) → Q (.ref p) H'
theorem cutV_ints (ns : List Int) (lo hi : Option Int) : ∃ ms : List Int, cutV (ns.map V.int) lo hi = ms.map V.int := by
  refine ⟨(ns.drop (HT.sIx ns.length 0 lo)).take (HT.sIx ns.length ns.length hi - HT.sIx ns.length 0 lo), ?_⟩
  unfold cutV
  rw [List.map_take, List.map_drop, List.length_map]
theorem sIx_nat (n d : Nat) (i : Int) (h : 0 ≤ i) : HT.sIx n d (some i) = min i.toNat n := by
  unfold HT.sIx
  simp
  omega
theorem cut_top {ns : List Int} {top : Int} (h : 0 < top) : cutV (ns.map V.int) none (some top) = (ns.take top.toNat).map V.int := by
  unfold cutV
  rw [sIx_nat _ _ _ (by omega), List.length_map, List.map_take]
  have : HT.sIx ns.length 0 none = 0 := rfl
  rw [this, List.drop_zero, Nat.sub_zero]
  by_cases q : top.toNat ≤ ns.length
  · rw [Nat.min_eq_left q]
  · rw [Nat.min_eq_right (by omega), List.take_of_length_le (by simp), List.take_of_length_le (by simp; omega)]
theorem cut_rest {ns : List Int} {top : Int} (h : 0 < top) (hl : 0 < (cutV (ns.map V.int) (some top) (some 63)).length) : top.toNat < ns.length := by
  unfold cutV at hl
  rw [List.length_take, List.length_drop, sIx_nat _ 0 top (by omega), List.length_map] at hl
  omega
theorem orT_read {K : PySem.W.Frag} {Q : VK} {σ : L2.St} {H2 : Hp} {l : Addr} {ys : List Int} (hl : H2 l = some (.lst (ys.map V.int)))
    (key : ∀ (xs : List Int) (p : Addr) (H1 : Hp), 0 < xs.length → (ys ≠ [] → xs = ys) → (ys = [] → xs = [0]) → Same H2 H1 → (p = l ∨ H2 p = none) → H1 p = some (.lst (xs.map V.int)) → Q (.ref p) H1) :
    ∃ k, TruV K (.ref l) H2 k ∧ if k = true then Q (.ref l) H2 else tLst (tCons (tC (.int 0)) tNil) σ H2 Q := by
  refine ⟨_, .inl ⟨_, SqL.of hl, rfl⟩, ?_⟩
  cases ys with
  | nil =>
    refine iteF ⟨(by show 1 ≤ sizeLine; decide), fun p hp => ?_⟩
    exact key [0] p _ (by simp) (fun z => absurd rfl z) (fun _ => rfl) (fun b o h => by rw [upd_ne (ne_of_none h hp)]; exact h) (.inr hp) upd_same
  | cons y ys => exact iteT (key (y :: ys) l H2 (by simp) (fun _ => rfl) (fun z => nomatch z) (Same.refl _) (.inl rfl) hl)
section
variable {Pr : Program} {w : World} {K : PySem.W.Frag} {mg : Str → Option Value} {base : Heap}
theorem cells_ok {st : Stmt} {f : Addr} {fd : FuncData} {s t c k e a : Str} {p1 p2 p3 p4 p5 p6 p7 p8 p9 p10 p11 p12 p13 p14 p15 p16 p17 p18 p19 p20 p21 p22 p23 p24 p25 p26 p27 p28 p29 p30 p31 p32 p33 p34 p35 p36 p37 p38 p39 p40 p41 p42 p43 p44 : Pos} {k1 k2 k3 k4 : Nat}
    (F : Fun K "_law_cells" "_law_cells" st f fd) (S : FnScope [s, t, c, k, e, a] [s, t] (defScope st))
    (hb : defBody st = [.Assign [.Name c p1] (.BoolOp .Or [.Call (.Name "list" p2) [.Subscript (.Name s p3) (.Slice none (some (.Name t p4)) none p5) p6] [] p7, .List [.Constant (.int 0) k1 p8] p9] p10) p11,
      .For (.Tuple [.Name k p12, .Name e p13] k2 p14) (.Call (.Name "enumerate" p15) [.Subscript (.Name s p16) (.Slice (some (.Name t p17)) (some (.Constant (.int 63) k3 p18)) none p19) p20] [] p21)
        [.Assign [.Name a p22] (.BinOp (.Call (.Name "int" p23) [.Name k p24] [] p25) .Mod (.Name t p26) p27) p28,
         .Assign [.Subscript (.Name c p29) (.Name a p30) p31] (.BinOp (.Subscript (.Name c p32) (.Name a p33) p34) .Add (.BinOp (.Name e p35) .Mult (.BinOp (.Name k p36) .Add (.Constant (.int 2) k4 p37) p38) p39) p40) p41] [] p42,
      .Return (some (.Name c p43)) p44])
    (ls : (defScope st).names.lookup s = some .local) (lt : (defScope st).names.lookup t = some .local) (lc : (defScope st).names.lookup c = some .local) (lk : (defScope st).names.lookup k = some .local) (le : (defScope st).names.lookup e = some .local) (la : (defScope st).names.lookup a = some .local)
    (gl : (defScope st).names.lookup ("list" : Str) = some .globalImplicit) (ge : (defScope st).names.lookup ("enumerate" : Str) = some .globalImplicit) (gi : (defScope st).names.lookup ("int" : Str) = some .globalImplicit)
    (ml : mg "list" = none) (me : mg "enumerate" = none) (mi : mg "int" = none)
    (hd : ∀ x ∈ [s, t, c, k, e, a], (x == ("__debug__" : Str)) = false ∧ (x == ("__classdict__" : Str)) = false) :
    FnOk Pr w K mg base (L2.CX Pr w) 1 f fd [s, t] (spCells K) := by
  refine F.okX S (fun vs H Q E h => ?_) (fun cdv A outer s0 H vs Q E hr h => ?_)
  · obtain ⟨a, ns, top, rfl, _⟩ := h
    rfl
  obtain ⟨al, ns, top, rfl, hS, h63, ht0, ht3, q⟩ := h
  have vr : ∀ {i : Nat} {x : Str} {pos : Pos}, [s, t, c, k, e, a][i]? = some x → (defScope st).names.lookup x = some .local → PE (cxOf (L2.CX Pr w) Pr w K mg base [s, t, c, k, e, a] "_law_cells" (defScope st) f cdv A outer s0 H E) (.Name x pos) (tVar i) := fun {i x pos} h1 h2 =>
    pe_var h1 (.inl h2) (hd x (List.mem_of_getElem? h1)).1 (hd x (List.mem_of_getElem? h1)).2
  have hp : PassesOwn (model Pr w) (cxOf (L2.CX Pr w) Pr w K mg base [s, t, c, k, e, a] "_law_cells" (defScope st) f cdv A outer s0 H E).A (cxOf (L2.CX Pr w) Pr w K mg base [s, t, c, k, e, a] "_law_cells" (defScope st) f cdv A outer s0 H E).env (cxOf (L2.CX Pr w) Pr w K mg base [s, t, c, k, e, a] "_law_cells" (defScope st) f cdv A outer s0 H E).xe := passes_of rfl
  rw [hb]
  refine ⟨_, pss_cons (ps_set (i := 2) S.nd rfl (.inl lc) (pe_orT (pe_callTy call_list_of gl ml rfl (pa_cons (pe_slice sl_list (vr (i := 0) rfl ls) po_none (po_some (vr (i := 1) rfl lt))) pa_nil)) (pe_one (pe_lst (pa_cons pe_int pa_nil)))))
    (pss_cons (ps_for hp rfl (pi_enum ge me (pa_cons (pe_slice sl_list (vr (i := 0) rfl ls) (po_some (vr (i := 1) rfl lt)) (po_some pe_int)) pa_nil)) (pg_tup rfl (pgs_cons (pg_name (i := 3) S.nd rfl (.inl lk)) (pgs_cons (pg_name (i := 4) S.nd rfl (.inl le)) pgs_nil)))
      (pss_cons (ps_set (i := 5) S.nd rfl (.inl la) (pe_op op_mod (pe_callTy call_int1 gi mi rfl (pa_cons (vr (i := 3) rfl lk) pa_nil)) (vr (i := 1) rfl lt)))
      (pss_one (ps_asg (pe_op op_add (pe_ix ix_list (vr (i := 2) rfl lc) (vr (i := 5) rfl la) (fun _ _ => rfl)) (pe_op op_mul (vr (i := 4) rfl le) (pe_op op_add (vr (i := 3) rfl lk) pe_int))) (pg_sub (vr (i := 2) rfl lc) (vr (i := 5) rfl la) set_list (fun _ => rfl)) rfl rfl (by rfl)))))
    (pss_one (ps_ret (vr (i := 2) rfl lc)))), ?_⟩
  refine ⟨_, rfl, _, rfl, top, rfl, al, _, rfl, hS, fun q1 hq1 => ⟨q1, _, rfl, .inl (SqL.of upd_same), fun l hl => ?_⟩⟩
  have ql : l ≠ q1 := fun z => by
    subst z
    rw [upd_same] at hl
    cases hl
  have s1 : Same H (upd (upd H q1 (.lst (cutV (ns.map V.int) none (some top)))) l (.lst (cutV (ns.map V.int) none (some top)))) := fun b o h => by
    rw [upd_ne (ne_of_none h (by rw [upd_ne ql] at hl; exact hl)), upd_ne (ne_of_none h hq1)]
    exact h
  refine orT_read (ys := ns.take top.toNat) (by rw [← cut_top ht0]; exact upd_same) fun xs p H1 x1 x2 x3 x4 x5 x6 => ?_
  have hpn : H p = none := by
    rcases x5 with x5 | x5
    · subst x5
      rw [upd_ne ql] at hl
      exact hl
    · cases e : H p with
      | none => rfl
      | some o =>
        rw [s1 p o e] at x5
        cases x5
  have sH : Same H H1 := s1.trans x4
  have xl : xs.length ≤ 3 ∧ (top.toNat < ns.length → xs.length = top.toNat) := by
    by_cases c : ns.take top.toNat = []
    · rw [x3 c]
      refine ⟨by simp, fun z => ?_⟩
      have := congrArg List.length c
      rw [List.length_take, List.length_nil] at this
      omega
    · rw [x2 c, List.length_take]
      omega
  refine ⟨_, rfl, _, rfl, top, rfl, 63, rfl, al, _, rfl, sH.seq hS, fun q2 hq2 => ⟨q2, _, rfl, SqL.of upd_same, ?_⟩⟩
  have pq : p ≠ q2 := ne_of_none x6 hq2
  have s2 : Same H1 (upd H1 q2 (.lst (cutV (ns.map V.int) (some top) (some 63)))) := fun b o h => by
    rw [upd_ne (ne_of_none h hq2)]
    exact h
  obtain ⟨ms, hms⟩ := cutV_ints ns (some top) (some 63)
  have hrest := fun z => cut_rest (ns := ns) ht0 z
  have hml : ms.length ≤ ns.length := by
    have := cutV_length (ns.map V.int) (some top) (some 63)
    rw [hms, List.length_map, List.length_map] at this
    exact this
  rw [hms] at hrest s2 ⊢
  rw [List.length_map] at hrest
  refine ⟨fun i m σ H' => m = ms.length - i ∧ i ≤ ms.length ∧ ∃ (ys : List Int) (kv ev av : Option V), σ = [some (.ref al), some (.int top), some (.ref p), kv, ev, av] ∧ ys.length = xs.length ∧ Same H H' ∧ H' p = some (.lst (ys.map V.int)) ∧ H' q2 = some (.lst (ms.map V.int)),
    ⟨ms.length, by simp, Nat.zero_le _, xs, none, none, none, rfl, rfl, sH.trans s2, by rw [upd_ne pq]; exact x6, upd_same⟩, ?_⟩
  rintro i m σ H' ⟨rfl, hi, ys, kv, ev, av, rfl, yl, yS, yp, yq⟩
  by_cases hlt : i < ms.length
  · refine .inr ⟨⟨_, _, SqL.of yq, by rw [List.getElem?_map, List.getElem?_eq_getElem hlt] <;> rfl⟩, fun σ2 H2 => i + 1 ≤ ms.length ∧ ∃ (ys : List Int) (kv ev av : Option V), σ2 = [some (.ref al), some (.int top), some (.ref p), kv, ev, av] ∧ ys.length = xs.length ∧ Same H H2 ∧ H2 p = some (.lst (ys.map V.int)) ∧ H2 q2 = some (.lst (ms.map V.int)),
      fun σ' H'' z => ⟨ms.length - (i + 1), by omega, rfl, z⟩, fun x H'' yld => ?_⟩
    obtain ⟨T, x0, rfl, hT, rfl, hx⟩ := yld
    have hx0 := hx _ (SqL.of yq)
    rw [List.getElem?_map, List.getElem?_eq_getElem hlt] at hx0
    have hx0 : some (V.int ms[i]) = some x0 := hx0
    cases hx0
    have sT : Same H' (upd H' T (.tup [.int (i : Nat), .int ms[i]])) := fun b o h => by
      rw [upd_ne (ne_of_none h hT)]
      exact h
    refine ⟨T, _, rfl, SqT.of upd_same, rfl, _, _, rfl, _, _, rfl, rfl, ?_⟩
    have he := xl.2 (hrest (by omega))
    have hm0 : 0 ≤ (i : Int) % top := Int.emod_nonneg _ (by omega)
    have hm1 : (i : Int) % top < top := Int.emod_lt_of_pos _ ht0
    have hix : L2.ixN (ys.map V.int).length ((i : Int) % top) = some ((i : Int) % top).toNat := by
      unfold L2.ixN
      rw [List.length_map, yl, he, if_pos hm0, if_pos (by omega)]
    have hj : ((i : Int) % top).toNat < ys.length := by omega
    have hat : L2.atI (ys.map V.int) ((i : Int) % top) = some (V.int ys[((i : Int) % top).toNat]) := by
      unfold L2.atI
      rw [hix]
      show (ys.map V.int)[((i : Int) % top).toNat]? = _
      rw [List.getElem?_map, List.getElem?_eq_getElem hj] <;> rfl
    refine ⟨_, rfl, .inl ⟨_, rfl, _, rfl, _, _, rfl, rfl, ht0, ?_⟩⟩
    refine ⟨_, rfl, _, rfl, p, _, _, _, rfl, rfl, SqL.of (sT _ _ yp), hat, _, rfl, _, rfl, _, _, rfl, rfl, _, _, rfl, rfl, .inr ⟨by omega, by have := h63; have := hml; omega⟩, _, _, rfl, rfl, _, rfl, _, rfl, p, _, _, _, rfl, rfl, sT _ _ yp, hix, ?_⟩
    have sP : Same H (upd (upd H' T (.tup [.int (i : Nat), .int ms[i]])) p (.lst ((ys.map V.int).set ((i : Int) % top).toNat (.int (ys[((i : Int) % top).toNat] + ms[i] * ((i : Int) + 2)))))) := fun b o h => by
      rw [upd_ne (ne_of_none h hpn)]
      exact (yS.trans sT) b o h
    refine ⟨hlt, ys.set ((i : Int) % top).toNat (ys[((i : Int) % top).toNat] + ms[i] * ((i : Int) + 2)), _, _, _, rfl, by rw [List.length_set, yl], sP, ?_, ?_⟩
    · rw [upd_same, List.map_set]
    · rw [upd_ne (fun z => pq z.symm)]
      exact sT _ _ yq
  · exact .inl ⟨⟨_, SqL.of yq, by rw [List.length_map]; omega⟩, _, rfl, q ys p H' (by omega) (by omega) yS hpn yp⟩
end
end Dv
/-! text DM -/
set_option Elab.async false
set_option linter.all false
set_option maxRecDepth 100000
set_option maxHeartbeats 4000000
namespace Dv
open PySem PySem.Spec L2

/-! ### law -/
def spLaw (K : PySem.W.Frag) : Sp := fun vs H Q _ => ∃ (a : Addr) (ns : List Int), vs = [.ref a] ∧ SqL K H a (ns.map V.int) ∧ ns.length ≤ 63 ∧ ∀ H', Q (.bl true) H'
def LawD.ct (l : LawD) (t : Txt') : Ct := { sc := defScope l.st, N := [l.s, l.c, l.k], blk := none, bx := false, blt := t.blt, con := t.con, fns := fnsOf t.DL, kws := t.kws }
def LawD.form (l : LawD) (hd last : Stmt) (p1 p2 p3 p4 p5 p6 p7 p8 p9 : Pos) (k1 k2 : Nat) (e : Expr) : List Stmt :=
  [.If e [.Return (some (.Constant (.bool false) k1 p1)) p2] [] p3, .Assign [.Name l.c p4] (.Call (.Name "_law_cells" p5) [.Name l.s p6, .Constant (.int l.top) k2 p7] [] p8) p9, last]
def LawD.ok (l : LawD) (t : Txt') : Bool := scB [l.s, l.c, l.k] [l.s] (defScope l.st) && decide ((defScope l.st).names.lookup l.s = some .local) && (decide ((defScope l.st).names.lookup l.c = some .local) || decide ((defScope l.st).names.lookup l.c = some .cell)) &&
  glOk (l.ct t) "_law_cells" && !(l.s == ("__debug__" : Str)) && !(l.s == ("__classdict__" : Str)) && decide (0 < l.top) && decide (l.top ≤ 3) &&
  (match defBody l.st with
    | [.If e [.Return (some (.Constant (.bool false) _ _)) _] [] _, .Assign [.Name c _] (.Call (.Name f _) [.Name s _, .Constant (.int top) _ _] [] _) _, last] =>
      decide (c = l.c) && decide (f = ("_law_cells" : Str)) && decide (s = l.s) && decide (top = l.top) && okE (.not (.call l.hand .nil)) (l.ct t) e && okB (lawRet l.right l.box) (l.ct t) false [last]
    | _ => false)
theorem rpA_int {F : Hp} : ∀ xs : List Int, RpA F (xs.map V.int) (xs.map PyData.int)
  | [] => .nil
  | x :: xs => .cons (.int x) (rpA_int xs)
section
variable {Pr : Program} {w : World} {K : PySem.W.Frag} {mg : Str → Option Value} {base : Heap} {cs : Cls'}
theorem law_ok (cs : Cls') {l : LawD} {t : Txt'} {fa : Nat → Addr} {fd : Nat → FuncData} {f fc : Addr} {fld fcd : FuncData} {cps : List Str} {k : Nat} {bh : Bx} (hl : l.ok t = true) (hall : t.DL.all (okDef t) = true) (T : AtTop K mg t fa fd)
    (F : Fun K "law" "law" l.st f fld) (C : FnOk Pr w K mg base (L2.CX Pr w) 1 fc fcd cps (spCells K)) (mC : mg "_law_cells" = some (.ref fc)) (kC : PySem.W.keepIn K (.ref fc) = true) (bC : Binds K fcd cps [])
    (h1 : fnN (tblOf t.DL) (k + 1) l.hand [] b0 = .ok (.bool true) bh)
    (h2 : ∀ xs : List Int, 0 < xs.length → xs.length ≤ 3 → ∃ b, ex (fnN (tblOf t.DL) (k + 1)) (lawRet l.right l.box) [.no, .v (.list (xs.map PyData.int)), .no] b0 = .rt (.bool true) b) :
    FnOk Pr w K mg base (L2.CX Pr w) (k + 2) f fld [l.s] (spLaw K) := by
  unfold LawD.ok at hl
  rw [Bool.and_eq_true, Bool.and_eq_true, Bool.and_eq_true, Bool.and_eq_true, Bool.and_eq_true, Bool.and_eq_true, Bool.and_eq_true, Bool.and_eq_true] at hl
  obtain ⟨⟨⟨⟨⟨⟨⟨⟨o1, o2⟩, o3⟩, o4⟩, o5⟩, o6⟩, o7⟩, o8⟩, o9⟩ := hl
  have S := scB_of o1
  refine F.okX S (fun vs H Q E h => ?_) (fun cdv A outer s0 H vs Q E hr h => ?_)
  · obtain ⟨a, ns, rfl, _⟩ := h
    rfl
  obtain ⟨al, ns, rfl, hS, h63, q⟩ := h
  have ck : CokS (l.ct t) (cxOf (L2.CX Pr w) Pr w K mg base [l.s, l.c, l.k] "law" (defScope l.st) f cdv A outer s0 H E) none cs (fun cls dd _ H' => E cls dd H') (fnN (tblOf t.DL) (k + 1)) :=
    { k := { calm := rfl, N := rfl, nd := S.nd, sc := rfl, fn := (fun y => rfl), bx := ⟨(fun z => nomatch z), fun z => absurd rfl z⟩, hu := (by have := hr.un; show (A.deeper _).units + 70 < _; omega), blt := T.blt, con := T.con,
             fns := (fun g q hq => by
               obtain ⟨d', hd', rfl⟩ := fnsOf_get hq
               obtain ⟨F', B', m'⟩ := T.fn g d' hd'
               exact ⟨_, _, _, k + 1, m', F'.kp, all_ok hall T (k + 1) g d' hd', B', hr⟩),
             kws := (fun kw hk q hq => by
               obtain ⟨d', hd', rfl⟩ := fnsOf_get hq
               obtain ⟨F', B', m'⟩ := T.fn _ d' hd'
               obtain ⟨b1, b2⟩ := T.kws kw hk d' hd'
               have h := all_ok (Pr := Pr) (w := w) (base := base) (cs := cs) hall T (k + 1) kw.1 d' hd'
               rw [b1] at h
               exact ⟨_, _, _, k + 1, m', F'.kp, h, b2, hr⟩),
             tk := takes_of rfl rfl rfl rfl }, kind := S.kind, hp := passes_of rfl }
  split at o9
  · rename_i e1 kb1 pb1 pb2 pb3 cn pc1 fn pf1 sn ps1 top kt1 pt1 pc2 pa1 last hbd
    rw [Bool.and_eq_true, Bool.and_eq_true, Bool.and_eq_true, Bool.and_eq_true, Bool.and_eq_true, decide_eq_true_eq, decide_eq_true_eq, decide_eq_true_eq, decide_eq_true_eq] at o9
    obtain ⟨⟨⟨⟨⟨rfl, rfl⟩, rfl⟩, rfl⟩, u1⟩, u2⟩ := o9
    rw [hbd]
    have P1 := ((so_all (bo := none) (cs := cs) (φ := fnN (tblOf t.DL) (k + 1)) (.not (.call l.hand .nil))).a (H0 := H) (W := fun cls dd _ H' => E cls dd H') ck.k u1 rfl).1.t
    have lc : Loc (defScope l.st) l.c := by
      rw [Bool.or_eq_true, decide_eq_true_eq, decide_eq_true_eq] at o3
      exact o3
    have P2 := fun (F2 H2 : Hp) => (st_all (bo := none) (cs := cs) (φ := fnN (tblOf t.DL) (k + 1)) (F0 := F2) (H0 := H2) (lawRet l.right l.box)).2 ck u2
    obtain ⟨g1, g2⟩ := gl_of ck.k o4
    have P3 : PSs (cxOf (L2.CX Pr w) Pr w K mg base [l.s, l.c, l.k] "law" (defScope l.st) f cdv A outer s0 H E) [last] (fun D σ H => ∃ F0 H0, liftS none F0 H0 cs (fun cls dd _ H' => E cls dd H') false (ex (fnN (tblOf t.DL) (k + 1)) (lawRet l.right l.box)) D σ H) :=
      ⟨fun pins s σ H D I ⟨F2, H2, q⟩ => (P2 F2 H2).run pins s σ H D I q⟩
    refine ⟨_, pss_cons (ps_if P1 (pss_one (ps_ret pe_bl)) pss_nil) (pss_cons (ps_set (i := 1) S.nd rfl lc (pe_callS C (hr.mono (by omega)) g1 mC kC bC (fun σ => passAt ck.k.tk σ)
      (pa_cons (pe_var (i := 0) rfl (.inl (of_decide_eq_true o2)) (by simpa using o5) (by simpa using o6)) (pa_cons pe_int pa_nil)) g2)) P3), ?_⟩
    have e1 : gT (ev (fnN (tblOf t.DL) (k + 1)) (.not (.call l.hand .nil))) [.no, .no, .no] b0 = .ok false b0 := by
      show R.bind (R.bind (R.bind (R.ok (.list []) b0) fun ds b1 => match fnN (tblOf t.DL) (k + 1) l.hand (argsOf ds) b0 with | .ok d _ => .ok d b1 | .ex c d _ => .ex c d b1 | .no => .no) fun d b1 => R.ofO ((truD d).map fun t => .bool (!t)) b1) (fun d b1 => R.ofO (truD d) b1) = _
      have : fnN (tblOf t.DL) (k + 1) l.hand (argsOf (.list [])) b0 = .ok (.bool true) bh := h1
      simp only [R.bind, this]
      rfl
    refine ⟨[.no, .no, .no], b0, fun _ => none, ⟨(fun _ _ z => nomatch z), ⟨rfl, fun i s hs => ?_, fun i j a di dj _ hs => ?_⟩, (fun β z => nomatch z), (fun β z => nomatch z), fun a z => z⟩, ?_⟩
    · match i, hs with
      | 0, hs => cases hs; trivial
      | 1, hs => cases hs; trivial
      | 2, hs => cases hs; trivial
    · match i, hs with
      | 0, hs => cases hs
      | 1, hs => cases hs
      | 2, hs => cases hs
    rw [e1]
    intro F1 H1 x1 z1
    refine iteF ?_
    have sH1 : Same H H1 := fun a o ha => x1.keep a o (fun z => nomatch z) ha
    refine ⟨_, rfl, al, ns, l.top, rfl, sH1.seq hS, h63, of_decide_eq_true o7, of_decide_eq_true o8, fun xs p H2 y1 y2 y3 y4 y5 => ?_⟩
    obtain ⟨b2, hb2⟩ := h2 xs y1 y2
    have hF : ∀ a o, upd (fun _ => none) p (.lst (xs.map V.int)) a = some o → a = p ∧ o = .lst (xs.map V.int) := fun a o ha => by
      by_cases z : a = p
      · subst z
        rw [upd_same] at ha
        cases ha
        exact ⟨rfl, rfl⟩
      · rw [upd_ne z] at ha
        cases ha
    have hsub : Same (upd (fun _ => none) p (.lst (xs.map V.int))) H2 := fun a o ha => by
      obtain ⟨rfl, rfl⟩ := hF a o ha
      exact y5
    refine ⟨upd (fun _ => none) p (.lst (xs.map V.int)), H2, [.no, .v (.list (xs.map PyData.int)), .no], b0, upd (fun _ => none) p (.lst (xs.map V.int)), ⟨hsub, ⟨rfl, fun i s hs => ?_, fun i j a di dj _ hs => ?_⟩, (fun β z => nomatch z), (fun β z => nomatch z), fun a z => z⟩, Ext.refl hsub, ?_⟩
    · match i, hs with
      | 0, hs => cases hs; trivial
      | 1, hs => cases hs; exact ⟨.ref p, rfl, .lst upd_same (rpA_int xs)⟩
      | 2, hs => cases hs; trivial
    · match i, hs with
      | 0, hs => cases hs
      | 1, hs => cases hs
      | 2, hs => cases hs
    · rw [hb2]
      intro v F3 H3 x3 z3 r3
      have r3 : Rp F3 v (.bool true) := r3
      cases r3
      exact q H3
  · cases o9
end
end Dv
/-! text KB_k58 -/
set_option Elab.async false
set_option linter.all false
set_option maxRecDepth 100000
set_option maxHeartbeats 4000000
namespace Lw
open PySem PySem.Spec L2 Dv
theorem o0 : okDef T d0 = true := by decide +kernel
theorem o1 : okDef T d1 = true := by decide +kernel
theorem o2 : okDef T d2 = true := by decide +kernel
theorem o3 : okDef T d3 = true := by decide +kernel
theorem o4 : okDef T d4 = true := by decide +kernel
theorem o5 : okDef T d5 = true := by decide +kernel
theorem o6 : okDef T d6 = true := by decide +kernel
theorem o7 : okDef T d7 = true := by decide +kernel
theorem o8 : okDef T d8 = true := by decide +kernel
theorem o9 : okDef T d9 = true := by decide +kernel
theorem o10 : okDef T d10 = true := by decide +kernel
theorem o11 : okDef T d11 = true := by decide +kernel
theorem o12 : okDef T d12 = true := by decide +kernel
theorem o13 : okDef T d13 = true := by decide +kernel
theorem o14 : okDef T d14 = true := by decide +kernel
theorem o15 : okDef T d15 = true := by decide +kernel
theorem o16 : okDef T d16 = true := by decide +kernel
theorem o17 : okDef T d17 = true := by decide +kernel
theorem o18 : okDef T d18 = true := by decide +kernel
theorem o19 : okDef T d19 = true := by decide +kernel
theorem oAll : T.DL.all (okDef T) = true := by
  show [d0, d1, d2, d3, d4, d5, d6, d7, d8, d9, d10, d11, d12, d13, d14, d15, d16, d17, d18, d19].all (okDef T) = true
  rw [List.all_eq_true]
  intro d h
  simp only [List.mem_cons, List.not_mem_nil, or_false] at h
  rcases h with rfl | rfl | rfl | rfl | rfl | rfl | rfl | rfl | rfl | rfl | rfl | rfl | rfl | rfl | rfl | rfl | rfl | rfl | rfl | rfl
  · exact o0
  · exact o1
  · exact o2
  · exact o3
  · exact o4
  · exact o5
  · exact o6
  · exact o7
  · exact o8
  · exact o9
  · exact o10
  · exact o11
  · exact o12
  · exact o13
  · exact o14
  · exact o15
  · exact o16
  · exact o17
  · exact o18
  · exact o19
theorem oLaw : lw.ok T = true := by decide +kernel

end Lw
/-! text DN -/
set_option Elab.async false
set_option linter.all false
set_option maxRecDepth 100000
set_option maxHeartbeats 4000000
namespace Dv
open PySem

/-! ### what the evaluator's parts give -/
section
variable {α β : Type} {a : α} {b b1 : Bx} {f : α → Bx → R β} {e : Env}
@[simp] theorem bind_ok : (R.ok a b).bind f = f a b := rfl
@[simp] theorem bind_ex {c : Nat} {d : Option P} : (R.ex c d b : R α).bind f = .ex c d b := rfl
@[simp] theorem bind_no : (R.no : R α).bind f = .no := rfl
@[simp] theorem ofO_some : R.ofO (some a) b = .ok a b := rfl
@[simp] theorem ofO_none : (R.ofO (none : Option α) b) = .no := rfl
@[simp] theorem out_ok {f : α → Bx → Out} : (R.ok a b).out e f = f a b := rfl
@[simp] theorem out_ex {f : α → Bx → Out} {c : Nat} {d : Option P} : (R.ex c d b : R α).out e f = .xx e c d b := rfl
@[simp] theorem noex_ok : (R.ok a b).noex = .ok a b := rfl
@[simp] theorem obind_nx {f : Env → Bx → Out} : (Out.nx e b).bind f = f e b := rfl
@[simp] theorem obind_rt {d : P} {f : Env → Bx → Out} : (Out.rt d b).bind f = .rt d b := rfl
@[simp] theorem obind_xx {d : Option P} {c : Nat} {f : Env → Bx → Out} : (Out.xx e c d b).bind f = .xx e c d b := rfl
end
@[simp] theorem truD_none : truD .none = some false := rfl
@[simp] theorem truD_bool {t : Bool} : truD (.bool t) = some t := rfl
@[simp] theorem truD_int {i : Int} : truD (.int i) = some (i != 0) := rfl
@[simp] theorem truD_list {xs : List P} : truD (.list xs) = some (!xs.isEmpty) := rfl
@[simp] theorem truD_tuple {xs : List P} : truD (.tuple xs) = some (!xs.isEmpty) := rfl
@[simp] theorem argsOf_list {xs : List P} : argsOf (.list xs) = xs := rfl
@[simp] theorem itemsD_list {xs : List P} : itemsD (.list xs) = some xs := rfl
@[simp] theorem itemsD_tuple {xs : List P} : itemsD (.tuple xs) = some xs := rfl
@[simp] theorem lenD_list {xs : List P} : lenD (.list xs) = some (xs.length : Int) := rfl
@[simp] theorem lenD_tuple {xs : List P} : lenD (.tuple xs) = some (xs.length : Int) := rfl
@[simp] theorem mkSl_f {d : P} : mkSl false d = .v d := rfl
@[simp] theorem mkSl_t {xs : List P} : mkSl true (.list xs) = .o (.list xs) := rfl
@[simp] theorem tru_eq {φ : Phi} {c : IE} {e : Env} {b : Bx} : tru φ c e b = (ev φ c e b).bind fun d b1 => R.ofO (truD d) b1 := rfl
theorem line_eq' : line = 16777216 := rfl
/-- shaped: the flat ones -/
theorem shaped_int {i : Int} : SeqAt.shaped (.int i) = true := by simp [SeqAt.shaped, PyData.canLay0, PyData.depth]
theorem shaped_none : SeqAt.shaped .none = true := by simp [SeqAt.shaped, PyData.canLay0, PyData.depth]
theorem shaped_bool {t : Bool} : SeqAt.shaped (.bool t) = true := by simp [SeqAt.shaped, PyData.canLay0, PyData.depth]
theorem shaped_str {x : Str} (h : PyData.strOk x = true) : SeqAt.shaped (.str x) = true := by simp [SeqAt.shaped, PyData.canLay0, PyData.depth, h]
theorem beq_dec {α : Type} [DecidableEq α] {i j : α} : (i == j) = decide (i = j) := by
  by_cases h : i = j
  · simp [h]
  · simp [h]
@[simp] theorem eq_int {i j : Int} : cmpD .eq (.int i) (.int j) = some (decide (i = j)) := by
  simp [cmpD, eqD, shaped_int, PyData.eqv, beq_dec]
@[simp] theorem ne_int {i j : Int} : cmpD .ne (.int i) (.int j) = some (!decide (i = j)) := by
  simp [cmpD, eqD, shaped_int, PyData.eqv, beq_dec]
@[simp] theorem eq_bool {i j : Bool} : cmpD .eq (.bool i) (.bool j) = some (i == j) := by
  simp [cmpD, eqD, shaped_bool, PyData.eqv]
@[simp] theorem ne_bool {i j : Bool} : cmpD .ne (.bool i) (.bool j) = some (!(i == j)) := by
  simp [cmpD, eqD, shaped_bool, PyData.eqv]
theorem eq_str {i j : Str} (h1 : PyData.strOk i = true) (h2 : PyData.strOk j = true) : cmpD .eq (.str i) (.str j) = some (decide (i = j)) := by
  simp [cmpD, eqD, shaped_str h1, shaped_str h2, PyData.eqv, beq_dec]
@[simp] theorem lt_int {i j : Int} : cmpD .lt (.int i) (.int j) = some (decide (i < j)) := rfl
@[simp] theorem le_int {i j : Int} : cmpD .le (.int i) (.int j) = some (decide (i ≤ j)) := rfl
@[simp] theorem gt_int {i j : Int} : cmpD .gt (.int i) (.int j) = some (decide (j < i)) := rfl
@[simp] theorem ge_int {i j : Int} : cmpD .ge (.int i) (.int j) = some (decide (j ≤ i)) := rfl
def isNo : P → Bool
  | .none => true
  | _ => false
@[simp] theorem is_none {x : P} : cmpD .is_ x .none = some (isNo x) := by cases x <;> rfl
@[simp] theorem isn_none {x : P} : cmpD .isn x .none = some (!isNo x) := by cases x <;> rfl

theorem all_l {xs : List P} : biD .all [.list xs] = (boolsOf xs).map fun bs => .bool (bs.all id) := rfl
theorem bools_map {α : Type} (g : α → Bool) : ∀ xs : List α, boolsOf (xs.map fun x => PyData.bool (g x)) = some (xs.map g)
  | [] => rfl
  | x :: xs => by
    show (boolsOf (xs.map fun x => PyData.bool (g x))).map (g x :: ·) = _
    rw [bools_map g xs] <;> rfl
theorem all_map {α : Type} (g : α → Bool) (xs : List α) : biD .all [.list (xs.map fun x => PyData.bool (g x))] = some (.bool (xs.all g)) := by
  rw [all_l, bools_map]
  simp [List.all_map]

@[simp] theorem idx_lz {x : P} {xs : List P} : idxD (.list (x :: xs)) (.int 0) = some x := L2.atI_nat (j := 0) rfl
@[simp] theorem idx_tz {x : P} {xs : List P} : idxD (.tuple (x :: xs)) (.int 0) = some x := L2.atI_nat (j := 0) rfl
@[simp] theorem idx_l1 {x y : P} {xs : List P} : idxD (.list (x :: y :: xs)) (.int 1) = some y := L2.atI_nat (j := 1) rfl
@[simp] theorem idx_t1 {x y : P} {xs : List P} : idxD (.tuple (x :: y :: xs)) (.int 1) = some y := L2.atI_nat (j := 1) rfl
theorem idx_ti {xs : List P} {i : Int} (h0 : 0 ≤ i) (h1 : i < xs.length) : idxD (.tuple xs) (.int i) = some (xs[i.toNat]'(by omega)) := by
  have t : i = ((i.toNat : Nat) : Int) := by omega
  have := L2.atI_nat (xs := xs) (j := i.toNat) (List.getElem?_eq_getElem (by omega))
  rw [← t] at this
  exact this
theorem idx_li {xs : List P} {i : Int} (h0 : 0 ≤ i) (h1 : i < xs.length) : idxD (.list xs) (.int i) = some (xs[i.toNat]'(by omega)) := by
  have t : i = ((i.toNat : Nat) : Int) := by omega
  have := L2.atI_nat (xs := xs) (j := i.toNat) (List.getElem?_eq_getElem (by omega))
  rw [← t] at this
  exact this

theorem setAt_n {xs : List P} {i : Int} {v : P} (h0 : 0 ≤ i) (h1 : i < xs.length) : setAt (.list xs) (.int i) v = some (.list (xs.set i.toNat v)) := by
  have : L2.ixN xs.length i = some i.toNat := by
    unfold L2.ixN
    rw [if_pos h0, if_pos h1]
  show (match L2.ixN xs.length i with | some j => some (PyData.list (xs.set j v)) | none => none) = _
  rw [this]

/-! a def's run -/
theorem run_rt {φ : Phi} {f : Fn} {as : List P} {b b1 : Bx} {d : P} (h : as.length = f.ps) (e : ex φ f.body (startE f.bx f.slots as) b = .rt d b1) : run φ f as b = .ok d b1 := by
  unfold run
  rw [if_pos h, e]
theorem fn_run {T : Nat → Option Fd} {k i : Nat} {f : Fn} (h : T i = some (.code f)) (as : List P) (b : Bx) : fnN T (k + 1) i as b = run (fnN T k) f as b := by
  show (match T i with | some (.code f) => run (fnN T k) f as b | some (.prim g) => g as b | none => .no) = _
  rw [h]

/-! statements, one by one -/
section
variable {φ : Phi} {x y : IS} {e e1 : Env} {b b1 : Bx} {o : Out} {d : P}
theorem seq_nx (h1 : ex φ x e b = .nx e1 b1) (h2 : ex φ y e1 b1 = o) : ex φ (.seq x y) e b = o := by
  show (ex φ x e b).bind _ = o
  rw [h1]
  exact h2
theorem seq_rt (h1 : ex φ x e b = .rt d b1) : ex φ (.seq x y) e b = .rt d b1 := by
  show (ex φ x e b).bind _ = _
  rw [h1] <;> rfl
theorem for_of {tg : Tg} {it : IE} {xs : List P} (hi : ev φ it e b = .ok d b1) (hd : itemsD d = some xs) (hl : forL (fun x e b => match asgn tg x e with
      | none => .no
      | some e' => ex φ y e' b) xs e b1 = o) : ex φ (.forr tg it y) e b = o := by
  show (ev φ it e b).out e _ = o
  rw [hi]
  show (match itemsD d with | none => Out.no | some xs => _) = o
  rw [hd]
  exact hl
theorem iff_t {c : IE} (hc : ev φ c e b = .ok d b1) (ht : truD d = some true) (h : ex φ x e b1 = o) : ex φ (.iff c x y) e b = o := by
  show (tru φ c e b).out e _ = o
  rw [tru_eq, hc, bind_ok, ht]
  exact h
theorem iff_f {c : IE} (hc : ev φ c e b = .ok d b1) (ht : truD d = some false) (h : ex φ y e b1 = o) : ex φ (.iff c x y) e b = o := by
  show (tru φ c e b).out e _ = o
  rw [tru_eq, hc, bind_ok, ht]
  exact h
theorem ret_of {c : IE} (hc : ev φ c e b = .ok d b1) : ex φ (.ret c) e b = .rt d b1 := by
  show (ev φ c e b).out e _ = _
  rw [hc] <;> rfl
theorem setS_of {c : IE} {i : Nat} {ow : Bool} (hc : ev φ c e b = .ok d b1) : ex φ (.set i ow c) e b = .nx (e.set i (mkSl ow d)) b1 := by
  show (ev φ c e b).out e _ = _
  rw [hc] <;> rfl
end

/-! walks -/
theorem forL_nx {body : P → Env → Bx → Out} {I : List P → Env → Bx → Prop} (step : ∀ x xs e b, I (x :: xs) e b → ∃ e1 b1, body x e b = .nx e1 b1 ∧ I xs e1 b1) : ∀ xs e b, I xs e b → ∃ e1 b1, forL body xs e b = .nx e1 b1 ∧ I [] e1 b1
  | [], e, b, h => ⟨e, b, rfl, h⟩
  | x :: xs, e, b, h => by
    obtain ⟨e1, b1, h1, h2⟩ := step x xs e b h
    obtain ⟨e2, b2, h3, h4⟩ := forL_nx step xs e1 b1 h2
    exact ⟨e2, b2, by show (body x e b).bind _ = _; rw [h1]; exact h3, h4⟩
/-- it goes on, or hands back: what holds then -/
theorem forL_or {body : P → Env → Bx → Out} {I : List P → Env → Bx → Prop} {J : Out → Prop} (step : ∀ x xs e b, I (x :: xs) e b → (∃ e1 b1, body x e b = .nx e1 b1 ∧ I xs e1 b1) ∨ ∃ d b1, body x e b = .rt d b1 ∧ J (.rt d b1)) :
    ∀ xs e b, I xs e b → (∃ e1 b1, forL body xs e b = .nx e1 b1 ∧ I [] e1 b1) ∨ ∃ d b1, forL body xs e b = .rt d b1 ∧ J (.rt d b1)
  | [], e, b, h => .inl ⟨e, b, rfl, h⟩
  | x :: xs, e, b, h => by
    rcases step x xs e b h with ⟨e1, b1, h1, h2⟩ | ⟨d, b1, h1, h2⟩
    · rcases forL_or step xs e1 b1 h2 with ⟨e2, b2, h3, h4⟩ | ⟨d, b2, h3, h4⟩
      · exact .inl ⟨e2, b2, by show (body x e b).bind _ = _; rw [h1]; exact h3, h4⟩
      · exact .inr ⟨d, b2, by show (body x e b).bind _ = _; rw [h1]; exact h3, h4⟩
    · exact .inr ⟨d, b1, by show (body x e b).bind _ = _; rw [h1] <;> rfl, h2⟩
theorem lcL_inv {turn : P → Bx → R (List P)} {I : List P → List P → Bx → Prop} (step : ∀ x xs acc b, I (x :: xs) acc b → ∃ ys b1, turn x b = .ok ys b1 ∧ I xs (acc ++ ys) b1) : ∀ xs acc b, I xs acc b → ∃ zs b1, lcL turn xs b = .ok zs b1 ∧ I [] (acc ++ zs) b1
  | [], acc, b, h => ⟨[], b, rfl, by simpa using h⟩
  | x :: xs, acc, b, h => by
    obtain ⟨ys, b1, h1, h2⟩ := step x xs acc b h
    obtain ⟨zs, b2, h3, h4⟩ := lcL_inv step xs _ b1 h2
    exact ⟨ys ++ zs, b2, by show (turn x b).bind _ = _; rw [h1]; show (lcL turn xs b1).bind _ = _; rw [h3] <;> rfl, by rw [← List.append_assoc]; exact h4⟩
theorem lcL_flat {turn : P → Bx → R (List P)} {g : P → List P} {b : Bx} : ∀ {xs : List P}, (∀ x ∈ xs, turn x b = .ok (g x) b) → lcL turn xs b = .ok (xs.flatMap g) b
  | [], _ => rfl
  | x :: xs, h => by
    show (turn x b).bind _ = _
    rw [h x List.mem_cons_self]
    show (lcL turn xs b).bind _ = _
    rw [lcL_flat fun y hy => h y (List.mem_cons_of_mem _ hy)]
    rw [List.flatMap_cons] <;> rfl
theorem lcL_map {turn : P → Bx → R (List P)} {g : P → P} {b : Bx} {xs : List P} (h : ∀ x ∈ xs, turn x b = .ok [g x] b) : lcL turn xs b = .ok (xs.map g) b := by
  rw [lcL_flat (g := fun x => [g x]) h]
  congr 1
  clear h
  induction xs with
  | nil => rfl
  | cons x xs ih => rw [List.flatMap_cons, ih] <;> rfl
theorem lcL_filter {turn : P → Bx → R (List P)} {p : P → Bool} {g : P → P} {b : Bx} {xs : List P} (h : ∀ x ∈ xs, turn x b = .ok (if p x then [g x] else []) b) : lcL turn xs b = .ok ((xs.filter p).map g) b := by
  rw [lcL_flat h]
  congr 1
  clear h
  induction xs with
  | nil => rfl
  | cons x xs ih =>
    rw [List.flatMap_cons, ih]
    by_cases q : p x = true
    · simp [q]
    · simp [q]
theorem lcL_map_map {α : Type} {turn : P → Bx → R (List P)} {h g : α → P} {b : Bx} : ∀ {ps : List α}, (∀ a ∈ ps, turn (h a) b = .ok [g a] b) → lcL turn (ps.map h) b = .ok (ps.map g) b
  | [], _ => rfl
  | a :: ps, H => by
    rw [List.map_cons]
    show (turn (h a) b).bind _ = _
    rw [H a List.mem_cons_self]
    show (lcL turn (ps.map h) b).bind _ = _
    rw [lcL_map_map (g := g) fun y hy => H y (List.mem_cons_of_mem _ hy)] <;> rfl
theorem lcL_filter_map {α : Type} {turn : P → Bx → R (List P)} {h g : α → P} {p : α → Bool} {b : Bx} : ∀ {ps : List α}, (∀ a ∈ ps, turn (h a) b = .ok (if p a then [g a] else []) b) → lcL turn (ps.map h) b = .ok ((ps.filter p).map g) b
  | [], _ => rfl
  | a :: ps, H => by
    rw [List.map_cons]
    show (turn (h a) b).bind _ = _
    rw [H a List.mem_cons_self]
    show (lcL turn (ps.map h) b).bind _ = _
    rw [lcL_filter_map (g := g) (p := p) fun y hy => H y (List.mem_cons_of_mem _ hy)]
    rw [List.filter_cons]
    cases p a <;> rfl
/-! comprehensions -/
def lcTurn (φ : Phi) (own : List Nat) (elt : IE) (tg : Tg) (ifs : IE) (e : Env) (x : P) (b : Bx) : R (List P) := R.noex (match asgn tg x (wipe e own) with
  | none => .no
  | some e' => (ev φ ifs e' b).bind fun t b2 => match truD t with
    | some true => (ev φ elt e' b2).bind fun y b3 => .ok [y] b3
    | some false => .ok [] b2
    | none => .no)
section
variable {φ : Phi} {own : List Nat} {elt it ifs : IE} {tg : Tg} {e : Env} {b b1 : Bx} {d : P} {xs : List P}
theorem ev_lc (hi : ev φ it e b = .ok d b1) (hd : itemsD d = some xs) (hl : xs.length ≤ line) : ev φ (.lc own elt tg it ifs) e b = (lcL (lcTurn φ own elt tg ifs e) xs b1).bind fun ys b2 => .ok (.list ys) b2 := by
  have q : ev φ (.lc own elt tg it ifs) e b = (ev φ it e b).bind fun d b1 => match itemsD d with
    | none => .no
    | some xs => if xs.length ≤ line then (lcL (lcTurn φ own elt tg ifs e) xs b1).bind fun ys b2 => .ok (.list ys) b2 else .no := rfl
  rw [q, hi, bind_ok, hd]
  show (if xs.length ≤ line then _ else R.no) = _
  rw [if_pos hl]
theorem turn_t {x y : P} {e' : Env} {b b2 b3 : Bx} (ha : asgn tg x (wipe e own) = some e') (hf : ev φ ifs e' b = .ok (.bool true) b2) (he : ev φ elt e' b2 = .ok y b3) : lcTurn φ own elt tg ifs e x b = .ok [y] b3 := by
  unfold lcTurn
  rw [ha]
  show R.noex ((ev φ ifs e' b).bind _) = _
  rw [hf, bind_ok, truD_bool]
  show R.noex ((ev φ elt e' b2).bind _) = _
  rw [he] <;> rfl
theorem turn_f {x : P} {e' : Env} {b b2 : Bx} (ha : asgn tg x (wipe e own) = some e') (hf : ev φ ifs e' b = .ok (.bool false) b2) : lcTurn φ own elt tg ifs e x b = .ok [] b2 := by
  unfold lcTurn
  rw [ha]
  show R.noex ((ev φ ifs e' b).bind _) = _
  rw [hf, bind_ok, truD_bool] <;> rfl
/-- each item gives one, nothing is drawn -/
theorem lc_map {g : P → P} (hi : ev φ it e b = .ok d b1) (hd : itemsD d = some xs) (hl : xs.length ≤ line) (h : ∀ x ∈ xs, ∃ e', asgn tg x (wipe e own) = some e' ∧ ev φ ifs e' b1 = .ok (.bool true) b1 ∧ ev φ elt e' b1 = .ok (g x) b1) : ev φ (.lc own elt tg it ifs) e b = .ok (.list (xs.map g)) b1 := by
  rw [ev_lc hi hd hl, lcL_map (g := g) (fun x hx => by
    obtain ⟨e', h1, h2, h3⟩ := h x hx
    exact turn_t h1 h2 h3)]
  rfl
theorem lc_filter {p : P → Bool} {g : P → P} (hi : ev φ it e b = .ok d b1) (hd : itemsD d = some xs) (hl : xs.length ≤ line) (h : ∀ x ∈ xs, ∃ e', asgn tg x (wipe e own) = some e' ∧ ev φ ifs e' b1 = .ok (.bool (p x)) b1 ∧ (p x = true → ev φ elt e' b1 = .ok (g x) b1)) : ev φ (.lc own elt tg it ifs) e b = .ok (.list ((xs.filter p).map g)) b1 := by
  rw [ev_lc hi hd hl, lcL_filter (g := g) (p := p) (fun x hx => by
    obtain ⟨e', h1, h2, h3⟩ := h x hx
    cases q : p x with
    | true =>
      rw [q] at h2
      rw [if_pos rfl]
      exact turn_t h1 h2 (h3 q)
    | false =>
      rw [q] at h2
      rw [if_neg (by decide)]
      exact turn_f h1 h2)]
  rfl
/-- the same over what is mapped -/
theorem lc_map_map {α : Type} {f g : α → P} {ps : List α} (hi : ev φ it e b = .ok d b1) (hd : itemsD d = some (ps.map f)) (hl : ps.length ≤ line) (h : ∀ a ∈ ps, ∃ e', asgn tg (f a) (wipe e own) = some e' ∧ ev φ ifs e' b1 = .ok (.bool true) b1 ∧ ev φ elt e' b1 = .ok (g a) b1) : ev φ (.lc own elt tg it ifs) e b = .ok (.list (ps.map g)) b1 := by
  rw [ev_lc hi hd (by rw [List.length_map]; exact hl), lcL_map_map (g := g) (fun a ha => by
    obtain ⟨e', h1, h2, h3⟩ := h a ha
    exact turn_t h1 h2 h3)]
  rfl
theorem lc_filter_map {α : Type} {f g : α → P} {p : α → Bool} {ps : List α} (hi : ev φ it e b = .ok d b1) (hd : itemsD d = some (ps.map f)) (hl : ps.length ≤ line) (h : ∀ a ∈ ps, ∃ e', asgn tg (f a) (wipe e own) = some e' ∧ ev φ ifs e' b1 = .ok (.bool (p a)) b1 ∧ (p a = true → ev φ elt e' b1 = .ok (g a) b1)) : ev φ (.lc own elt tg it ifs) e b = .ok (.list ((ps.filter p).map g)) b1 := by
  rw [ev_lc hi hd (by rw [List.length_map]; exact hl), lcL_filter_map (g := g) (p := p) (fun a ha => by
    obtain ⟨e', h1, h2, h3⟩ := h a ha
    cases q : p a with
    | true =>
      rw [q] at h2
      rw [if_pos rfl]
      exact turn_t h1 h2 (h3 q)
    | false =>
      rw [q] at h2
      rw [if_neg (by decide)]
      exact turn_f h1 h2)]
  rfl
/-- each item gives one, by draws -/
theorem lc_draw {I : List P → List P → Bx → Prop} (hi : ev φ it e b = .ok d b1) (hd : itemsD d = some xs) (hl : xs.length ≤ line) (h0 : I xs [] b1)
    (step : ∀ x rest acc b, I (x :: rest) acc b → ∃ e' y b2, asgn tg x (wipe e own) = some e' ∧ ev φ ifs e' b = .ok (.bool true) b ∧ ev φ elt e' b = .ok y b2 ∧ I rest (acc ++ [y]) b2) : ∃ zs b2, ev φ (.lc own elt tg it ifs) e b = .ok (.list zs) b2 ∧ I [] zs b2 := by
  obtain ⟨zs, b2, h1, h2⟩ := lcL_inv (turn := lcTurn φ own elt tg ifs e) (I := I) (fun x rest acc b h => by
    obtain ⟨e', y, b2, s1, s2, s3, s4⟩ := step x rest acc b h
    exact ⟨[y], b2, turn_t s1 s2 s3, s4⟩) xs [] b1 h0
  exact ⟨zs, b2, by rw [ev_lc hi hd hl, h1] <;> rfl, by simpa using h2⟩
end
theorem rngUp_eq : ∀ (n : Nat) (lo : Int), rngUp lo n = (List.range n).map fun (i : Nat) => PyData.int (lo + i)
  | 0, lo => rfl
  | n + 1, lo => by
    rw [List.range_succ_eq_map, List.map_cons, List.map_map]
    show .int lo :: rngUp (lo + 1) n = _
    rw [rngUp_eq n (lo + 1)]
    congr 1
    · simp
    · apply List.map_congr_left
      intro i _
      simp
      omega

/-! ### the source of draws -/
/-- so many draws are still allowed -/
def Bl (m : Nat) (b : Bx) : Prop := 0 ≤ b.2.2 ∧ b.2.2 + m ≤ 1152921504606846976
theorem Bl.le {m n : Nat} {b : Bx} (h : Bl m b) (q : n ≤ m) : Bl n b := ⟨h.1, by have := h.2; omega⟩
def takeIS : IS := .seq (.iff (.cmp .gt (.bget 0) (.cst (.int 0))) (.seq (.set 5 false (.bin .mod (.bi .int_ (.cons (.bget 0) (.nil))) (.var 1))) (.seq (.bset 0 (.bin .fdiv (.bget 0) (.var 1))) (.seq (.ret (.var 5)) (.nop)))) (.nop)) (.seq (.bset 2 (.bin .add (.bget 2) (.cst (.int 1)))) (.seq (.set 2 false (.bin .mod (.bi .int_ (.cons (.bin .mul (.bin .add (.bget 1) (.bin .mul (.cst (.int 48271)) (.bget 2))) (.bin .add (.cst (.int 39373)) (.bget 2))) (.nil))) (.cst (.int 2147483647)))) (.seq (.set 3 false (.bin .add (.bin .mod (.bi .int_ (.cons (.var 2) (.nil))) (.cst (.int 40009))) (.cst (.int 7)))) (.seq (.set 4 false (.bin .mod (.bi .int_ (.cons (.bin .mul (.bin .add (.bin .add (.var 2) (.bget 2)) (.bin .fdiv (.bget 1) (.cst (.int 1000003)))) (.var 3)) (.nil))) (.cst (.int 2147483629)))) (.seq (.ret (.bin .mod (.bi .int_ (.cons (.bin .fdiv (.bin .mod (.bi .int_ (.cons (.bin .add (.bin .mul (.var 4) (.cst (.int 48271))) (.var 2)) (.nil))) (.cst (.int 2147483587))) (.cst (.int 64))) (.nil))) (.var 1))) (.nop))))))
def takeF : Fn := { ps := 1, bx := true, fr := false, slots := 6, body := takeIS }
theorem mul_l {i j : Int} (h1 : -18446744073709551616 < i) (h2 : i < 18446744073709551616) : binD .mul (.int i) (.int j) = some (.int (i * j)) := by
  show (if mulOk i j then some (PyData.int (i * j)) else none) = _
  rw [if_pos]
  unfold mulOk
  rw [Bool.or_eq_true]
  exact .inl (leN_of (by omega))
theorem mul_r {i j : Int} (h1 : -18446744073709551616 < j) (h2 : j < 18446744073709551616) : binD .mul (.int i) (.int j) = some (.int (i * j)) := by
  show (if mulOk i j then some (PyData.int (i * j)) else none) = _
  rw [if_pos]
  unfold mulOk
  rw [Bool.or_eq_true]
  exact .inr (leN_of (by omega))
theorem mod_i {i j : Int} (h : 0 < j) : binD .mod (.int i) (.int j) = some (.int (i.fmod j)) := by
  show (if decide (j ≠ 0) then some (PyData.int (i.fmod j)) else none) = _
  rw [if_pos]
  simp
  omega
theorem fdiv_i {i j : Int} (h : 0 < j) (h2 : j < 1073741824) : binD .fdiv (.int i) (.int j) = some (.int (i.fdiv j)) := by
  show (if decide (j ≠ 0) && decide (j.natAbs < 1073741824) then some (PyData.int (i.fdiv j)) else none) = _
  rw [if_pos]
  simp
  omega
@[simp] theorem add_i {i j : Int} : binD .add (.int i) (.int j) = some (.int (i + j)) := rfl
@[simp] theorem sub_i {i j : Int} : binD .sub (.int i) (.int j) = some (.int (i - j)) := rfl
theorem fmod_lt {i j : Int} (h : 0 < j) : 0 ≤ i.fmod j ∧ i.fmod j < j := ⟨Int.fmod_nonneg_of_pos i h, Int.fmod_lt_of_pos i h⟩
@[simp] theorem int_i {i : Int} : biD .int_ [.int i] = some (.int i) := rfl
@[simp] theorem len_l {x : P} : biD .len [x] = (lenD x).map .int := rfl
theorem take_ok {φ : Phi} {n : Int} {m : Nat} {b : Bx} (hn : 0 < n) (hn2 : n < 1073741824) (hb : Bl (m + 1) b) : ∃ r b', run φ takeF [.int n] b = .ok (.int r) b' ∧ 0 ≤ r ∧ r < n ∧ Bl m b' := by
  obtain ⟨b0, b1, c⟩ := b
  obtain ⟨h1, h2⟩ := hb
  simp only at h1 h2
  by_cases q : 0 < b0
  · refine ⟨b0.fmod n, (b0.fdiv n, b1, c), run_rt rfl ?_, (fmod_lt hn).1, (fmod_lt hn).2, h1, by simp only; omega⟩
    simp [takeF, takeIS, ex, ev, startE, getV, bxAt, bxSet, q, mod_i hn, fdiv_i hn hn2]
  · have e1 : binD .mul (.int 48271) (.int (c + 1)) = some (.int (48271 * (c + 1))) := mul_l (by omega) (by omega)
    have e2 : ∀ i, binD .mul (.int i) (.int (39373 + (c + 1))) = some (.int (i * (39373 + (c + 1)))) := fun i => mul_r (by omega) (by omega)
    have e3 : ∀ i x : Int, binD .mul (.int i) (.int (x.fmod 40009 + 7)) = some (.int (i * (x.fmod 40009 + 7))) := fun i x => by
      have := fmod_lt (i := x) (j := 40009) (by omega)
      exact mul_r (by omega) (by omega)
    have e4 : ∀ x : Int, binD .mul (.int x) (.int 48271) = some (.int (x * 48271)) := fun x => mul_r (by omega) (by omega)
    have m1 : ∀ i : Int, binD .mod (.int i) (.int 2147483647) = some (.int (i.fmod 2147483647)) := fun i => mod_i (by omega)
    have m2 : ∀ i : Int, binD .mod (.int i) (.int 40009) = some (.int (i.fmod 40009)) := fun i => mod_i (by omega)
    have m3 : ∀ i : Int, binD .mod (.int i) (.int 2147483629) = some (.int (i.fmod 2147483629)) := fun i => mod_i (by omega)
    have m4 : ∀ i : Int, binD .mod (.int i) (.int 2147483587) = some (.int (i.fmod 2147483587)) := fun i => mod_i (by omega)
    have d1 : ∀ i : Int, binD .fdiv (.int i) (.int 1000003) = some (.int (i.fdiv 1000003)) := fun i => fdiv_i (by omega) (by omega)
    have d2 : ∀ i : Int, binD .fdiv (.int i) (.int 64) = some (.int (i.fdiv 64)) := fun i => fdiv_i (by omega) (by omega)
    refine ⟨(((((((b1 + 48271 * (c + 1)) * (39373 + (c + 1))).fmod 2147483647 + (c + 1) + b1.fdiv 1000003) * ((((b1 + 48271 * (c + 1)) * (39373 + (c + 1))).fmod 2147483647).fmod 40009 + 7)).fmod 2147483629 * 48271 + ((b1 + 48271 * (c + 1)) * (39373 + (c + 1))).fmod 2147483647).fmod 2147483587).fdiv 64).fmod n,
      (b0, b1, c + 1), run_rt rfl ?_, (fmod_lt hn).1, (fmod_lt hn).2, by simp only; omega, by simp only; omega⟩
    simp [takeF, takeIS, ex, ev, startE, getV, bxAt, bxSet, q, e1, e2, e3, e4, m1, m2, m3, m4, d1, d2, mod_i hn]
end Dv
/-! text DO -/
set_option Elab.async false
set_option linter.all false
set_option maxRecDepth 100000
set_option maxHeartbeats 4000000
namespace Dv
open PySem
/-! ### helpers of every law -/
def boxIS (seed : Int) : IS := .seq (.set 2 false (.ite (.cmp .lt (.var 1) (.bi .len (.cons (.var 0) (.nil)))) (.idx (.var 0) (.var 1)) (.cst (.int 0)))) (.seq (.ret (.lst (.cons (.bin .mul (.bi .abs (.cons (.var 2) (.nil))) (.bi .int_ (.cons (.cmp .ge (.bi .abs (.cons (.var 2) (.nil))) (.bin .pow (.cst (.int 10)) (.cst (.int 18)))) (.nil)))) (.cons (.bin .add (.bin .add (.bin .mod (.bi .int_ (.cons (.var 2) (.nil))) (.cst (.int 2305843009213693951))) (.bin .mul (.cst (.int 39373)) (.var 1))) (.cst (.int seed))) (.cons (.cst (.int 0)) (.nil)))))) (.nop))
def boxF (seed : Int) : Fn := { ps := 2, bx := false, fr := true, slots := 3, body := boxIS seed }
theorem box_ok {φ : Phi} {seed : Int} {xs : List Int} {i : Nat} {b : Bx} (h : i < xs.length) (h2 : i < 1000) : ∃ p q : Int, run φ (boxF seed) [.list (xs.map .int), .int i] b = .ok (.list [.int p, .int q, .int 0]) b := by
  have e0 : L2.atI (xs.map PyData.int) (i : Int) = some (.int xs[i]) := by
    refine L2.atI_nat ?_
    rw [List.getElem?_map, List.getElem?_eq_getElem h] <;> rfl
  have e1 : idxD (.list (xs.map PyData.int)) (.int (i : Int)) = some (.int xs[i]) := e0
  have e2 : ∀ c : Int, biD .abs [.int c] = some (.int (if c < 0 then -c else c)) := fun c => rfl
  have e3 : binD .pow (.int 10) (.int 18) = some (.int 1000000000000000000) := by
    show (if decide ((0 : Int) ≤ 18) && decide ((18 : Int) ≤ 1000000) && decide ((10 : Int).natAbs < 18446744073709551616) then some (PyData.int (10 ^ (18 : Int).toNat)) else none) = _
    rw [if_pos (by decide)] <;> rfl
  have e4 : ∀ t : Bool, biD .int_ [.bool t] = some (.int (b2i t)) := fun t => rfl
  have e5 : ∀ (c : Int) (t : Bool), binD .mul (.int c) (.int (b2i t)) = some (.int (c * b2i t)) := fun c t => by
    cases t
    · exact mul_r (by decide) (by decide)
    · exact mul_r (by decide) (by decide)
  have e6 : binD .mul (.int 39373) (.int (i : Int)) = some (.int (39373 * (i : Int))) := mul_l (by decide) (by decide)
  have e7 : ∀ c : Int, binD .mod (.int c) (.int 2305843009213693951) = some (.int (c.fmod 2305843009213693951)) := fun c => mod_i (by decide)
  have c1 : ((i : Int) < (xs.length : Int)) := by omega
  refine ⟨(if xs[i] < 0 then -xs[i] else xs[i]) * b2i (decide (1000000000000000000 ≤ (if xs[i] < 0 then -xs[i] else xs[i]))), (xs[i]).fmod 2305843009213693951 + 39373 * (i : Int) + seed, run_rt rfl ?_⟩
  simp [boxF, boxIS, ex, ev, startE, getV, e1, e2, e3, e4, e5, e6, e7, c1, h, line]
theorem bools_true : ∀ n : Nat, boolsOf (List.replicate n (PyData.bool true)) = some (List.replicate n true)
  | 0 => rfl
  | n + 1 => by
    show (boolsOf (List.replicate n (PyData.bool true))).map (true :: ·) = _
    rw [bools_true n] <;> rfl
theorem all_true (n : Nat) : biD .all [.list (List.replicate n (.bool true))] = some (.bool true) := by
  show (boolsOf (List.replicate n (PyData.bool true))).map (fun bs => PyData.bool (bs.all id)) = _
  rw [bools_true]
  simp
theorem rng_n {n : Nat} (h : n ≤ 1000) : rngD [.int (n : Int)] = some (rngUp 0 n) := by
  have : int62 (n : Int) = true := leN_of (by omega)
  show (if int62 (n : Int) then some (rngUp 0 ((n : Int)).toNat) else none) = _
  rw [if_pos this]
  rfl
theorem rng_2 {i j : Int} (h1 : i.natAbs ≤ 1000000) (h2 : j.natAbs ≤ 1000000) : rngD [.int i, .int j] = some (rngUp i (j - i).toNat) := by
  have a : int62 i = true := leN_of (by omega)
  have b : int62 j = true := leN_of (by omega)
  show (if int62 i && int62 j then some (rngUp i (j - i).toNat) else none) = _
  rw [a, b]
  rfl
theorem mem_rng {x : P} {lo : Int} {n : Nat} (h : x ∈ rngUp lo n) : ∃ i : Nat, i < n ∧ x = .int (lo + i) := by
  rw [rngUp_eq] at h
  obtain ⟨i, hi, rfl⟩ := List.mem_map.mp h
  exact ⟨i, List.mem_range.mp hi, rfl⟩
theorem rng_mem {lo : Int} {n i : Nat} (h : i < n) : (.int (lo + i) : P) ∈ rngUp lo n := by
  rw [rngUp_eq]
  exact List.mem_map.mpr ⟨i, List.mem_range.mpr h, rfl⟩
theorem rngUp_len' (n : Nat) (lo : Int) : (rngUp lo n).length = n := by rw [rngUp_eq]; simp
theorem map_const (x : P) : ∀ xs : List P, xs.map (fun _ => x) = List.replicate xs.length x
  | [] => rfl
  | y :: ys => by
    rw [List.map_cons, map_const x ys] <;> rfl
theorem ret_ok {φ φ' : Phi} {right box : Nat} {seed : Int} {xs : List Int} (hbox : ∀ as b, φ box as b = run φ' (boxF seed) as b) (hr : ∀ p q : Int, ∃ b', φ right [] (p, q, 0) = .ok (.bool true) b') (hl : xs.length ≤ 3) :
    ∃ b, ex φ (lawRet right box) [.no, .v (.list (xs.map PyData.int)), .no] b0 = .rt (.bool true) b := by
  have e1 : rngD [.int (xs.length : Int)] = some (rngUp 0 xs.length) := rng_n (by omega)
  have e2 : (rngUp 0 xs.length).length ≤ line := by
    rw [rngUp_len']
    exact Nat.le_trans hl (by decide)
  refine ⟨b0, ?_⟩
  simp [lawRet, ex, ev, getV, e1, e2]
  rw [lcL_map (g := fun _ => .bool true) (fun x hx => ?_)]
  · have : (rngUp 0 xs.length).map (fun _ => PyData.bool true) = List.replicate xs.length (.bool true) := by
      rw [map_const, rngUp_len']
    simp [this, all_true]
  · rw [rngUp_eq] at hx
    obtain ⟨i, hi, rfl⟩ := List.mem_map.mp hx
    have hi := List.mem_range.mp hi
    obtain ⟨p, q, hb⟩ := box_ok (φ := φ') (seed := seed) (b := b0) hi (by omega)
    obtain ⟨b', hr'⟩ := hr p q
    simp [asgn, wipe, hbox, hb, boxOf, hr', Int.zero_add]

/-! ### plain data of bounded depth -/
def gd : Nat → P → Bool
  | _, .none => true
  | _, .bool _ => true
  | _, .int _ => true
  | _, .str x => PyData.strOk x
  | _, .dict _ => false
  | 0, _ => false
  | n + 1, .list xs => decide (xs.length ≤ line) && xs.all (gd n)
  | n + 1, .tuple xs => decide (xs.length ≤ line) && xs.all (gd n)
theorem gd_list {n : Nat} {xs : List P} (h1 : xs.length ≤ line) (h2 : ∀ x ∈ xs, gd n x = true) : gd (n + 1) (.list xs) = true := by
  show (decide (xs.length ≤ line) && xs.all (gd n)) = true
  rw [Bool.and_eq_true, List.all_eq_true]
  exact ⟨decide_eq_true h1, h2⟩
theorem gd_tuple {n : Nat} {xs : List P} (h1 : xs.length ≤ line) (h2 : ∀ x ∈ xs, gd n x = true) : gd (n + 1) (.tuple xs) = true := by
  show (decide (xs.length ≤ line) && xs.all (gd n)) = true
  rw [Bool.and_eq_true, List.all_eq_true]
  exact ⟨decide_eq_true h1, h2⟩
theorem gd_list' {n : Nat} {xs : List P} (h : gd (n + 1) (.list xs) = true) : xs.length ≤ line ∧ ∀ x ∈ xs, gd n x = true := by
  have h : (decide (xs.length ≤ line) && xs.all (gd n)) = true := h
  rw [Bool.and_eq_true, List.all_eq_true] at h
  exact ⟨of_decide_eq_true h.1, h.2⟩
theorem gd_tuple' {n : Nat} {xs : List P} (h : gd (n + 1) (.tuple xs) = true) : xs.length ≤ line ∧ ∀ x ∈ xs, gd n x = true := by
  have h : (decide (xs.length ≤ line) && xs.all (gd n)) = true := h
  rw [Bool.and_eq_true, List.all_eq_true] at h
  exact ⟨of_decide_eq_true h.1, h.2⟩
theorem canAll {xs : List P} (h : ∀ x ∈ xs, PyData.canLay0 x = true) : PyData.canLayAll0 xs = true := by
  induction xs with
  | nil => simp [PyData.canLayAll0]
  | cons x xs ih =>
    rw [PyData.canLayAll0, h x List.mem_cons_self, ih fun y hy => h y (List.mem_cons_of_mem _ hy)] <;> rfl
theorem depAll {n : Nat} {xs : List P} (h : ∀ x ∈ xs, PyData.depth x ≤ n) : PyData.depthAll xs ≤ n := by
  induction xs with
  | nil => simp [PyData.depthAll]
  | cons x xs ih =>
    rw [PyData.depthAll]
    exact Nat.max_le.mpr ⟨h x List.mem_cons_self, ih fun y hy => h y (List.mem_cons_of_mem _ hy)⟩
theorem eqvAll_refl {xs : List P} (h : ∀ x ∈ xs, PyData.eqv x x = true) : PyData.eqvAll xs xs = true := by
  induction xs with
  | nil => simp [PyData.eqvAll]
  | cons x xs ih =>
    rw [PyData.eqvAll, h x List.mem_cons_self, ih fun y hy => h y (List.mem_cons_of_mem _ hy)] <;> rfl
theorem gd_all : ∀ (n : Nat) (d : P), gd n d = true → PyData.canLay0 d = true ∧ PyData.depth d ≤ n ∧ PyData.eqv d d = true
  | n, .none, _ => by simp [PyData.canLay0, PyData.depth, PyData.eqv]
  | n, .bool t, _ => by simp [PyData.canLay0, PyData.depth, PyData.eqv]
  | n, .int i, _ => by simp [PyData.canLay0, PyData.depth, PyData.eqv]
  | n, .str x, h => by
    have h : PyData.strOk x = true := by cases n <;> exact h
    simp [PyData.canLay0, PyData.depth, PyData.eqv, h]
  | n, .dict _, h => by cases n <;> cases h
  | 0, .list _, h => by cases h
  | 0, .tuple _, h => by cases h
  | n + 1, .list xs, h => by
    have h := (gd_list' h).2
    refine ⟨?_, ?_, ?_⟩
    · rw [PyData.canLay0]; exact canAll fun x hx => (gd_all n x (h x hx)).1
    · rw [PyData.depth]; exact Nat.succ_le_succ (depAll fun x hx => (gd_all n x (h x hx)).2.1)
    · rw [PyData.eqv]; exact eqvAll_refl fun x hx => (gd_all n x (h x hx)).2.2
  | n + 1, .tuple xs, h => by
    have h := (gd_tuple' h).2
    refine ⟨?_, ?_, ?_⟩
    · rw [PyData.canLay0]; exact canAll fun x hx => (gd_all n x (h x hx)).1
    · rw [PyData.depth]; exact Nat.succ_le_succ (depAll fun x hx => (gd_all n x (h x hx)).2.1)
    · rw [PyData.eqv]; exact eqvAll_refl fun x hx => (gd_all n x (h x hx)).2.2
theorem gd_shaped {n : Nat} {d : P} (h : gd n d = true) (hn : n ≤ 64) : SeqAt.shaped d = true := by
  obtain ⟨h1, h2, _⟩ := gd_all n d h
  unfold SeqAt.shaped
  rw [h1, decide_eq_true (Nat.le_trans h2 hn)] <;> rfl
theorem eq_refl {n : Nat} {d : P} (h : gd n d = true) (hn : n ≤ 64) : cmpD .eq d d = some true := by
  show eqD d d = _
  unfold eqD
  rw [gd_shaped h hn, (gd_all n d h).2.2] <;> rfl
theorem gd_nil : gd 1 (.list []) = true := rfl
theorem eq_nil {n : Nat} {xs : List P} (h : gd n (.list xs) = true) (hn : n ≤ 64) : cmpD .eq (.list xs) (.list []) = some xs.isEmpty := by
  show eqD _ _ = _
  unfold eqD
  rw [gd_shaped h hn, gd_shaped gd_nil (by decide)]
  cases xs <;> simp [PyData.eqv, PyData.eqvAll]
theorem ne_nil {n : Nat} {xs : List P} (h : gd n (.list xs) = true) (hn : n ≤ 64) : cmpD .ne (.list xs) (.list []) = some (!xs.isEmpty) := by
  have := eq_nil h hn
  unfold cmpD at this ⊢
  simp only at this ⊢
  rw [this] <;> rfl

/-! the same of a thing and itself -/
def sameIS (self : Nat) : IS := .seq (.iff (.isi .seq_ (.var 1)) (.seq (.iff (.or (.cmp .ne (.isi .list_ (.var 0)) (.isi .list_ (.var 1))) (.cmp .ne (.isi .tuple_ (.var 0)) (.isi .tuple_ (.var 1)))) (.seq (.ret (.cst (.bool false))) (.nop)) (.nop)) (.seq (.ret (.and (.cmp .eq (.bi .len (.cons (.var 0) (.nil))) (.bi .len (.cons (.var 1) (.nil)))) (.bi .all (.cons (.lc [2, 3] (.call self (.cons (.var 2) (.cons (.var 3) (.nil)))) (.tp (.cons (.nm 2) (.cons (.nm 3) (.nil)))) (.zip (.var 0) (.var 1)) (.cst (.bool true))) (.nil))))) (.nop))) (.nop)) (.seq (.iff (.or (.cmp .is_ (.var 1) (.cst .none)) (.isi .numstr (.var 1))) (.seq (.ret (.and (.cmp .eq (.var 0) (.var 1)) (.and (.cmp .eq (.isi .bool_ (.var 0)) (.isi .bool_ (.var 1))) (.cmp .eq (.cmp .is_ (.var 0) (.cst .none)) (.cmp .is_ (.var 1) (.cst .none)))))) (.nop)) (.nop)) (.seq (.ret (.and (.isi .int_ (.var 0)) (.and (.not (.isi .bool_ (.var 0))) (.cmp .eq (.var 0) (.var 1))))) (.nop)))
def sameF (self : Nat) : Fn := { ps := 2, bx := false, fr := false, slots := 4, body := sameIS self }
theorem zipD_self : ∀ xs : List P, zipD xs xs = xs.map fun x => .tuple [x, x]
  | [] => rfl
  | x :: xs => by
    show .tuple [x, x] :: zipD xs xs = _
    rw [zipD_self xs] <;> rfl
theorem same_ok {T : Nat → Option Fd} {self : Nat} (hT : T self = some (.code (sameF self))) : ∀ (n k : Nat) (d : P) (b : Bx), gd n d = true → n ≤ 64 → n < k → fnN T k self [d, d] b = .ok (.bool true) b := by
  intro n
  induction n with
  | zero =>
    intro k d b h hn hk
    obtain ⟨k, rfl⟩ : ∃ j, k = j + 1 := ⟨k - 1, by omega⟩
    rw [fn_run hT]
    refine run_rt rfl ?_
    cases d with
    | list xs => cases h
    | tuple xs => cases h
    | dict xs => cases h
    | none => simp [sameF, sameIS, ex, ev, startE, getV, isiD, eq_refl h hn, isNo]
    | bool t => simp [sameF, sameIS, ex, ev, startE, getV, isiD, isNo]
    | int i => simp [sameF, sameIS, ex, ev, startE, getV, isiD, isNo]
    | str x => simp [sameF, sameIS, ex, ev, startE, getV, isiD, eq_refl h hn, isNo]
  | succ n ih =>
    intro k d b h hn hk
    obtain ⟨k, rfl⟩ : ∃ j, k = j + 1 := ⟨k - 1, by omega⟩
    rw [fn_run hT]
    refine run_rt rfl ?_
    cases d with
    | dict xs => cases h
    | none => simp [sameF, sameIS, ex, ev, startE, getV, isiD, eq_refl h hn, isNo]
    | bool t => simp [sameF, sameIS, ex, ev, startE, getV, isiD, isNo]
    | int i => simp [sameF, sameIS, ex, ev, startE, getV, isiD, isNo]
    | str x => simp [sameF, sameIS, ex, ev, startE, getV, isiD, eq_refl h hn, isNo]
    | list xs =>
      obtain ⟨h1, h2⟩ := gd_list' h
      have hz : (zipD xs xs).length ≤ line := by rw [zipD_self, List.length_map]; exact h1
      simp [sameF, sameIS, ex, ev, startE, getV, isiD, zipV, hz, List.replicate]
      rw [zipD_self, lcL_map (g := fun _ => .bool true) (fun x hx => ?_)]
      · rw [map_const, List.length_map]
        simp [all_true]
      · obtain ⟨y, hy, rfl⟩ := List.mem_map.mp hx
        have := ih k y b0 (h2 y hy) (by omega) (by omega)
        simp [asgn, wipe, this]
    | tuple xs =>
      obtain ⟨h1, h2⟩ := gd_tuple' h
      have hz : (zipD xs xs).length ≤ line := by rw [zipD_self, List.length_map]; exact h1
      simp [sameF, sameIS, ex, ev, startE, getV, isiD, zipV, hz, List.replicate]
      rw [zipD_self, lcL_map (g := fun _ => .bool true) (fun x hx => ?_)]
      · rw [map_const, List.length_map]
        simp [all_true]
      · obtain ⟨y, hy, rfl⟩ := List.mem_map.mp hx
        have := ih k y b0 (h2 y hy) (by omega) (by omega)
        simp [asgn, wipe, this]

/-! lists in the place of tuples -/
def listsIS (self : Nat) : IS := .seq (.ret (.ite (.isi .seq_ (.var 0)) (.lc [1] (.call self (.cons (.var 1) (.nil))) (.nm 1) (.var 0) (.cst (.bool true))) (.var 0))) (.nop)
def listsF (self : Nat) : Fn := { ps := 1, bx := false, fr := false, slots := 2, body := listsIS self }
def toL : Nat → P → P
  | n + 1, .list xs => .list (xs.map (toL n))
  | n + 1, .tuple xs => .list (xs.map (toL n))
  | _, d => d
theorem lists_ok {T : Nat → Option Fd} {self : Nat} (hT : T self = some (.code (listsF self))) : ∀ (n k : Nat) (d : P) (b : Bx), gd n d = true → n < k → fnN T k self [d] b = .ok (toL n d) b := by
  intro n
  induction n with
  | zero =>
    intro k d b h hk
    obtain ⟨k, rfl⟩ : ∃ j, k = j + 1 := ⟨k - 1, by omega⟩
    rw [fn_run hT]
    refine run_rt rfl ?_
    cases d with
    | list xs => cases h
    | tuple xs => cases h
    | dict xs => cases h
    | _ => simp [listsF, listsIS, ex, ev, startE, getV, isiD, toL]
  | succ n ih =>
    intro k d b h hk
    obtain ⟨k, rfl⟩ : ∃ j, k = j + 1 := ⟨k - 1, by omega⟩
    rw [fn_run hT]
    refine run_rt rfl ?_
    cases d with
    | dict xs => cases h
    | list xs =>
      obtain ⟨h1, h2⟩ := gd_list' h
      simp [listsF, listsIS, ex, ev, startE, getV, isiD, h1]
      rw [lcL_map (g := toL n) (fun x hx => by simp [asgn, wipe, ih k x b0 (h2 x hx) (by omega)])]
      simp [toL]
    | tuple xs =>
      obtain ⟨h1, h2⟩ := gd_tuple' h
      simp [listsF, listsIS, ex, ev, startE, getV, isiD, h1]
      rw [lcL_map (g := toL n) (fun x hx => by simp [asgn, wipe, ih k x b0 (h2 x hx) (by omega)])]
      simp [toL]
    | _ => simp [listsF, listsIS, ex, ev, startE, getV, isiD, toL]

/-! one of a list -/
def ofF (take : Nat) : Fn := { ps := 1, bx := true, fr := false, slots := 2, body := .seq (.ret (.idx (.var 1) (.callB take (.cons (.bi .len (.cons (.var 1) (.nil))) (.nil))))) (.nop) }
theorem of_ok {φ φ' : Phi} {take : Nat} {xs : List P} {m : Nat} {b : Bx} (ht : ∀ as b, φ take as b = run φ' takeF as b) (h0 : 0 < xs.length) (h1 : xs.length < 1000) (hb : Bl (m + 1) b) : ∃ x b', run φ (ofF take) [.list xs] b = .ok x b' ∧ x ∈ xs ∧ Bl m b' := by
  obtain ⟨r, b', e, a1, a2, a3⟩ := take_ok (φ := φ') (n := (xs.length : Int)) (by omega) (by omega) hb
  have hr : r.toNat < xs.length := by omega
  refine ⟨xs[r.toNat], b', run_rt rfl ?_, List.getElem_mem hr, a3⟩
  have ei : idxD (.list xs) (.int r) = some xs[r.toNat] := by
    have t : r = ((r.toNat : Nat) : Int) := by omega
    have := L2.atI_nat (xs := xs) (j := r.toNat) (List.getElem?_eq_getElem hr)
    rw [← t] at this
    exact this
  simp [ofF, ex, ev, startE, getV, ht, e, ei]
end Dv
/-! text M_k58 -/
set_option Elab.async false
set_option linter.all false
set_option maxRecDepth 100000
set_option maxHeartbeats 4000000
namespace Lw
open PySem Dv
abbrev D := Dv.P
theorem r0 (k : Nat) (as : List D) (b : Bx) : φ (k + 1) 0 as b = Dv.run (φ k) f0 as b := rfl
theorem r1 (k : Nat) (as : List D) (b : Bx) : φ (k + 1) 1 as b = Dv.run (φ k) f1 as b := rfl
theorem r2 (k : Nat) (as : List D) (b : Bx) : φ (k + 1) 2 as b = Dv.run (φ k) f2 as b := rfl
theorem r3 (k : Nat) (as : List D) (b : Bx) : φ (k + 1) 3 as b = Dv.run (φ k) f3 as b := rfl
theorem r4 (k : Nat) (as : List D) (b : Bx) : φ (k + 1) 4 as b = Dv.run (φ k) f4 as b := rfl
theorem r5 (k : Nat) (as : List D) (b : Bx) : φ (k + 1) 5 as b = Dv.run (φ k) f5 as b := rfl
theorem r6 (k : Nat) (as : List D) (b : Bx) : φ (k + 1) 6 as b = Dv.run (φ k) (boxF 1054358) as b := rfl
theorem r7 (k : Nat) (as : List D) (b : Bx) : φ (k + 1) 7 as b = Dv.run (φ k) takeF as b := rfl
theorem r10 (k : Nat) (as : List D) (b : Bx) : φ (k + 1) 10 as b = Dv.run (φ k) f10 as b := rfl
theorem r11 (k : Nat) (as : List D) (b : Bx) : φ (k + 1) 11 as b = Dv.run (φ k) f11 as b := rfl
theorem r12 (k : Nat) (as : List D) (b : Bx) : φ (k + 1) 12 as b = Dv.run (φ k) f12 as b := rfl
theorem r14 (k : Nat) (as : List D) (b : Bx) : φ (k + 1) 14 as b = Dv.run (φ k) f14 as b := rfl
theorem r15 (k : Nat) (as : List D) (b : Bx) : φ (k + 1) 15 as b = Dv.run (φ k) f15 as b := rfl
theorem r16 (k : Nat) (as : List D) (b : Bx) : φ (k + 1) 16 as b = Dv.run (φ k) f16 as b := rfl
theorem r17 (k : Nat) (as : List D) (b : Bx) : φ (k + 1) 17 as b = Dv.run (φ k) f17 as b := rfl
theorem r19 (k : Nat) (as : List D) (b : Bx) : φ (k + 1) 19 as b = Dv.run (φ k) f19 as b := rfl
theorem same (k n : Nat) (d : D) (b : Bx) (h : gd n d = true) (hn : n ≤ 64) (hk : n < k) : φ k 8 [d, d] b = .ok (.bool true) b := same_ok (T := tblOf T.DL) (self := 8) rfl n k d b h hn hk
theorem takes (k : Nat) (n : Int) (m : Nat) (b : Bx) (hn : 0 < n) (hn2 : n < 1073741824) (hb : Bl (m + 1) b) : ∃ r b', φ (k + 1) 7 [.int n] b = .ok (.int r) b' ∧ 0 ≤ r ∧ r < n ∧ Bl m b' := by
  rw [r7]
  exact take_ok hn hn2 hb

/-! is_number, is_bar, rises, is_bars -/
def isN : D → Bool
  | .int _ => true
  | _ => false
theorem w0 (k : Nat) (d : D) (b : Bx) : φ (k + 1) 0 [d] b = .ok (.bool (isN d)) b := by
  rw [r0]
  cases d <;> rfl
theorem w15 (k : Nat) (d : D) (b : Bx) : φ (k + 1) 15 [d] b = .ok (.bool (isN d)) b := by
  rw [r15]
  cases d <;> rfl
def barOk (n : Int) : D → Bool
  | .tuple [.int i, .int j] => decide (0 ≤ i) && (decide (i < j) && decide (j < n))
  | _ => false
/-- short enough -/
def sh : D → Prop
  | .tuple xs => xs.length ≤ line
  | _ => True
theorem w2 (k : Nat) (ds d : D) (n : Int) (b : Bx) (hn : lenD ds = some n) (h : sh d) : φ (k + 2) 2 [ds, d] b = .ok (.bool (barOk n d)) b := by
  rw [r2]
  refine run_rt rfl ?_
  cases d with
  | tuple xs =>
    have h : xs.length ≤ line := h
    by_cases q : xs.length = 2
    · match xs, q with
      | [x, y], _ =>
        simp [f2, y2, ex, ev, startE, getV, isiD, List.replicate, line]
        rw [lcL_map (g := fun x => .bool (isN x)) (fun z hz => by simp [asgn, wipe, w0])]
        simp [all_map]
        cases x with
        | int i =>
          cases y with
          | int j =>
            have e0 : idxD (.tuple [.int i, .int j]) (.int 0) = some (.int i) := rfl
            have e1 : idxD (.tuple [.int i, .int j]) (.int 1) = some (.int j) := rfl
            simp [isN, barOk, e0, e1, hn, all_l, boolsOf]
            by_cases c1 : 0 ≤ i <;> by_cases c2 : i < j <;> simp [c1, c2]
          | _ => simp [isN, barOk, all_l, boolsOf]
        | _ => simp [isN, barOk, all_l, boolsOf]
    · have e : barOk n (.tuple xs) = false := by
        unfold barOk
        split
        · rename_i z
          cases z
          exact absurd rfl q
        · rfl
      have q2 : ¬ ((xs.length : Int) = 2) := by omega
      simp [f2, y2, ex, ev, startE, getV, isiD, List.replicate, q2, e]
  | _ => simp [f2, y2, ex, ev, startE, getV, isiD, barOk]
/-! rows that ascend -/
def adjB : List D → Bool
  | x :: y :: r => PySem.W.dataLt x y && adjB (y :: r)
  | _ => true
theorem adjB_iff : ∀ xs : List D, adjB xs = true ↔ ∀ (i : Nat) (x y : D), xs[i]? = some x → xs[i + 1]? = some y → PySem.W.dataLt x y = true
  | [] => by simp [adjB]
  | [x] => by simp [adjB]
  | x :: y :: r => by
    show (PySem.W.dataLt x y && adjB (y :: r)) = true ↔ _
    rw [Bool.and_eq_true, adjB_iff (y :: r)]
    constructor
    · rintro ⟨h1, h2⟩ i u v hu hv
      cases i with
      | zero =>
        simp at hu hv
        subst hu hv
        exact h1
      | succ i => exact h2 i u v (by simpa using hu) (by simpa using hv)
    · intro h
      exact ⟨h 0 x y rfl rfl, fun i u v hu hv => h (i + 1) u v (by simpa using hu) (by simpa using hv)⟩
def pr (p : Int × Int) : D := .tuple [.int p.1, .int p.2]
theorem ord_pr (p q : Int × Int) : ordD (pr p) (pr q) = true := by
  simp [ordD, pr, PySem.W.alike, PySem.W.alikeAll, noNone, PyData.depth, PyData.depthAll]
theorem lt_pr (p q : Int × Int) : cmpD .lt (pr p) (pr q) = some (PySem.W.dataLt (pr p) (pr q)) := by
  show (if ordD (pr p) (pr q) then some (PySem.W.dataLt (pr p) (pr q)) else none) = _
  rw [ord_pr] <;> rfl
theorem ge_pr (p q : Int × Int) : cmpD .ge (pr p) (pr q) = some (!PySem.W.dataLt (pr p) (pr q)) := by
  show (if ordD (pr p) (pr q) then some (!PySem.W.dataLt (pr p) (pr q)) else none) = _
  rw [ord_pr] <;> rfl
theorem barOk_pr {n : Int} {d : D} (h : barOk n d = true) : ∃ p, d = pr p := by
  unfold barOk at h
  split at h
  · exact ⟨(_, _), rfl⟩
  · cases h
theorem all_pr {n : Int} : ∀ {xs : List D}, xs.all (barOk n) = true → ∃ ps : List (Int × Int), xs = ps.map pr
  | [], _ => ⟨[], rfl⟩
  | x :: xs, h => by
    rw [List.all_cons, Bool.and_eq_true] at h
    obtain ⟨p, rfl⟩ := barOk_pr h.1
    obtain ⟨ps, rfl⟩ := all_pr h.2
    exact ⟨p :: ps, rfl⟩
theorem cut1 (xs : List D) : cutD xs (some 1) none = xs.tail := by
  unfold cutD
  have e1 : HT.sIx xs.length 0 (some 1) = min 1 xs.length := HT.sIx_nat xs.length 0 1
  have e2 : HT.sIx xs.length xs.length none = xs.length := rfl
  rw [e1, e2]
  cases xs with
  | nil => rfl
  | cons x xs =>
    have : min 1 (x :: xs).length = 1 := by simp
    rw [this]
    simp
theorem zip_len : ∀ xs ys : List D, (zipD xs ys).length ≤ xs.length
  | [], ys => by cases ys <;> simp [zipD]
  | x :: xs, [] => by simp [zipD]
  | x :: xs, y :: ys => by
    show (zipD xs ys).length + 1 ≤ xs.length + 1
    have := zip_len xs ys
    omega
theorem adj_zip : ∀ ps : List (Int × Int), ∃ qs : List ((Int × Int) × (Int × Int)), zipD (ps.map pr) (ps.map pr).tail = qs.map (fun q => .tuple [pr q.1, pr q.2]) ∧ qs.all (fun q => PySem.W.dataLt (pr q.1) (pr q.2)) = adjB (ps.map pr)
  | [] => ⟨[], rfl, rfl⟩
  | [p] => ⟨[], rfl, rfl⟩
  | p :: q :: r => by
    obtain ⟨qs, h1, h2⟩ := adj_zip (q :: r)
    refine ⟨(p, q) :: qs, ?_, ?_⟩
    · show .tuple [pr p, pr q] :: zipD ((q :: r).map pr) (r.map pr) = _
      have h1 : zipD ((q :: r).map pr) (r.map pr) = _ := h1
      rw [h1] <;> rfl
    · rw [List.all_cons, h2] <;> rfl
def dl : D → D
  | .tuple [u, v] => .bool (PySem.W.dataLt u v)
  | _ => .none
theorem w1 (k : Nat) (ps : List (Int × Int)) (b : Bx) (h : ps.length ≤ line) : φ (k + 1) 1 [.tuple (ps.map pr)] b = .ok (.bool (adjB (ps.map pr))) b := by
  rw [r1]
  refine run_rt rfl ?_
  obtain ⟨qs, h1, h2⟩ := adj_zip ps
  have hz : (zipD (ps.map pr) (ps.map pr).tail).length ≤ line := Nat.le_trans (zip_len _ _) (by simpa using h)
  have ha : biD .all [.list (qs.map fun q => .bool (PySem.W.dataLt (pr q.1) (pr q.2)))] = some (.bool (adjB (ps.map pr))) := by
    rw [all_map, h2]
  simp [f1, y1, ex, ev, startE, getV, partE, slcD, cut1, zipV, hz, List.replicate]
  rw [h1, lcL_map (g := dl) (fun x hx => ?_), List.map_map]
  · have : (dl ∘ fun q : (Int × Int) × (Int × Int) => PyData.tuple [pr q.1, pr q.2]) = fun q => .bool (PySem.W.dataLt (pr q.1) (pr q.2)) := rfl
    rw [this]
    simp [ha]
  · obtain ⟨q, _, rfl⟩ := List.mem_map.mp hx
    simp [asgn, wipe, lt_pr, dl]
def isBars (n : Int) : D → Bool
  | .tuple xs => xs.all (barOk n) && adjB xs
  | _ => false
/-- a thing, its parts: short -/
def sh2 : D → Prop
  | .tuple xs => xs.length ≤ line ∧ ∀ x ∈ xs, sh x
  | _ => True
theorem w3 (k : Nat) (ds d : D) (n : Int) (b : Bx) (hn : lenD ds = some n) (h : sh2 d) : φ (k + 3) 3 [ds, d] b = .ok (.bool (isBars n d)) b := by
  rw [r3]
  refine run_rt rfl ?_
  cases d with
  | tuple xs =>
    obtain ⟨h1, h2⟩ : xs.length ≤ line ∧ ∀ x ∈ xs, sh x := h
    by_cases q : xs.all (barOk n) = true
    · obtain ⟨ps, rfl⟩ := all_pr q
      have hp : ps.length ≤ line := by simpa using h1
      simp only [isBars, q, Bool.true_and]
      simp [f3, y3, ex, ev, startE, getV, isiD, List.replicate, hp]
      rw [lcL_map (g := fun x => .bool (barOk n x)) (fun x hx => by simp [asgn, wipe, w2 k ds x n b0 hn (h2 x hx)])]
      simp only [bind_ok, argsOf_list, all_map, q]
      simp [w1 (k + 1) ps b0 hp]
    · have q : xs.all (barOk n) = false := by simpa using q
      simp only [isBars, q, Bool.false_and]
      simp [f3, y3, ex, ev, startE, getV, isiD, List.replicate, h1]
      rw [lcL_map (g := fun x => .bool (barOk n x)) (fun x hx => by simp [asgn, wipe, w2 k ds x n b0 hn (h2 x hx)])]
      simp only [bind_ok, argsOf_list, all_map, q]
      simp
  | _ => simp [f3, y3, ex, ev, startE, getV, isiD, isBars]

/-! the law's own look at a thing -/
theorem idx_t (xs : List D) (i : Nat) (x : D) (h : xs[i]? = some x) : idxD (.tuple xs) (.int (i : Int)) = some x := L2.atI_nat h
theorem idx_l (xs : List D) (i : Nat) (x : D) (h : xs[i]? = some x) : idxD (.list xs) (.int (i : Int)) = some x := L2.atI_nat h
theorem w16loop (k : Nat) (n : Int) (d : D) (e3 : Sl) (b : Bx) : ∀ (xs : List D) (e2 : Sl), (∀ x ∈ xs, sh x) → ∃ e2', forL (fun x e b => match asgn (.nm 2) x e with
      | none => .no
      | some e' => ex (φ (k + 2)) (.seq (.iff (.or (.not (.isi .tuple_ (.var 2))) (.or (.cmp .ne (.bi .len (.cons (.var 2) (.nil))) (.cst (.int 2))) (.or (.not (.call 15 (.cons (.idx (.var 2) (.cst (.int 0))) (.nil)))) (.not (.call 15 (.cons (.idx (.var 2) (.cst (.int 1))) (.nil))))))) (.seq (.ret (.cst (.bool false))) (.nop)) (.nop)) (.seq (.iff (.not (.chain3 .le .lt .lt (.cst (.int 0)) (.idx (.var 2) (.cst (.int 0))) (.idx (.var 2) (.cst (.int 1))) (.var 0))) (.seq (.ret (.cst (.bool false))) (.nop)) (.nop)) (.nop))) e' b)
      xs [.v (.int n), .v d, e2, e3] b = if xs.all (barOk n) then .nx [.v (.int n), .v d, e2', e3] b else .rt (.bool false) b
  | [], e2, _ => ⟨e2, rfl⟩
  | x :: xs, e2, h => by
    have ih := w16loop k n d e3 b xs (.v x) (fun y hy => h y (List.mem_cons_of_mem _ hy))
    obtain ⟨e2', ih⟩ := ih
    refine ⟨e2', ?_⟩
    show Out.bind _ _ = _
    by_cases q : barOk n x = true
    · obtain ⟨⟨i, j⟩, rfl⟩ := barOk_pr q
      have q' : 0 ≤ i ∧ i < j ∧ j < n := by simpa [barOk, pr] using q
      have e0 : idxD (.tuple [.int i, .int j]) (.int 0) = some (.int i) := rfl
      have e1 : idxD (.tuple [.int i, .int j]) (.int 1) = some (.int j) := rfl
      rw [List.all_cons, q, Bool.true_and, ← ih]
      simp [asgn, ex, ev, getV, isiD, pr, e0, e1, w15, isN, q'.1, q'.2.1, q'.2.2]
    · rw [List.all_cons, (by simpa using q : barOk n x = false), Bool.false_and, if_neg (by decide)]
      cases x with
      | tuple ys =>
        by_cases c : ys.length = 2
        · match ys, c with
          | [u, v], _ =>
            have e0 : idxD (.tuple [u, v]) (.int 0) = some u := rfl
            have e1 : idxD (.tuple [u, v]) (.int 1) = some v := rfl
            cases u with
            | int i =>
              cases v with
              | int j =>
                have q' : 0 ≤ i → i < j → ¬ j < n := by simpa [barOk] using q
                by_cases c1 : 0 ≤ i
                · by_cases c2 : i < j
                  · simp [asgn, ex, ev, getV, isiD, e0, e1, w15, isN, c1, c2, q' c1 c2]
                  · simp [asgn, ex, ev, getV, isiD, e0, e1, w15, isN, c1, c2]
                · simp [asgn, ex, ev, getV, isiD, e0, e1, w15, isN, c1]
              | _ => simp [asgn, ex, ev, getV, isiD, e0, e1, w15, isN]
            | _ => simp [asgn, ex, ev, getV, isiD, e0, e1, w15, isN]
        · have q2 : ¬ ((ys.length : Int) = 2) := by omega
          simp [asgn, ex, ev, getV, isiD, q2]
      | _ => simp [asgn, ex, ev, getV, isiD]
def desc (ps : List (Int × Int)) : D → Bool
  | .int k => match (ps.map pr)[(k - 1).toNat]?, (ps.map pr)[k.toNat]? with
    | some x, some y => !PySem.W.dataLt x y
    | _, _ => false
  | _ => false
theorem desc_adj (ps : List (Int × Int)) : ((rngUp 1 (ps.length - 1)).filter (desc ps)).isEmpty = adjB (ps.map pr) := by
  rw [Bool.eq_iff_iff, List.isEmpty_iff, List.filter_eq_nil_iff, adjB_iff]
  constructor
  · intro h i x y hx hy
    have hi : i + 1 < (ps.map pr).length := (List.getElem?_eq_some_iff.mp hy).1
    rw [List.length_map] at hi
    have := h _ (rng_mem (lo := 1) (n := ps.length - 1) (i := i) (by omega))
    have e1 : ((1 : Int) + i - 1).toNat = i := by omega
    have e2 : ((1 : Int) + i).toNat = i + 1 := by omega
    unfold desc at this
    simp only [e1, e2, hx, hy] at this
    simpa using this
  · intro h x hx
    obtain ⟨i, hi, rfl⟩ := mem_rng hx
    have e1 : ((1 : Int) + i - 1).toNat = i := by omega
    have e2 : ((1 : Int) + i).toNat = i + 1 := by omega
    have l1 : i < (ps.map pr).length := by rw [List.length_map]; omega
    have l2 : i + 1 < (ps.map pr).length := by rw [List.length_map]; omega
    have := h i _ _ (List.getElem?_eq_getElem l1) (List.getElem?_eq_getElem l2)
    unfold desc
    simp only [e1, e2, List.getElem?_eq_getElem l1, List.getElem?_eq_getElem l2]
    rw [this]
    decide
theorem w16 (k : Nat) (d : D) (n : Int) (b : Bx) (h : sh2 d) (h3 : ∀ xs, d = .tuple xs → xs.length ≤ 1000) : φ (k + 3) 16 [.int n, d] b = .ok (.bool (isBars n d)) b := by
  rw [r16]
  refine run_rt rfl ?_
  cases d with
  | tuple xs =>
    obtain ⟨h1, h2⟩ : xs.length ≤ line ∧ ∀ x ∈ xs, sh x := h
    have hl := h3 xs rfl
    obtain ⟨e2, hf⟩ := w16loop k n (.tuple xs) .no b xs .no h2
    refine seq_nx (e1 := [.v (.int n), .v (.tuple xs), .no, .no]) (b1 := b) (by simp [ex, ev, getV, isiD, f16, startE]) ?_
    by_cases q : xs.all (barOk n) = true
    · obtain ⟨ps, rfl⟩ := all_pr q
      rw [if_pos q] at hf
      refine seq_nx (for_of (d := .tuple (ps.map pr)) rfl rfl hf) ?_
      have hp : ps.length ≤ 1000 := by simpa using hl
      have hz : (rngUp 1 (ps.length - 1)).length ≤ line := by
        rw [rngUp_len']
        exact Nat.le_trans (by omega : ps.length - 1 ≤ 1000) (by decide)
      have hr : rngD [.int 1, .int (ps.length : Int)] = some (rngUp 1 (ps.length - 1)) := by
        rw [rng_2 (by decide) (by omega)]
        congr 2
        omega
      have hg : gd 1 (.list ((rngUp 1 (ps.length - 1)).filter (desc ps))) = true := gd_list (Nat.le_trans (List.length_filter_le _ _) hz) (fun x hx => by
        obtain ⟨i, _, rfl⟩ := mem_rng (List.mem_filter.mp hx).1
        rfl)
      refine seq_rt (ret_of ?_)
      simp [ev, getV, hr, hz]
      rw [lcL_filter (p := desc ps) (g := fun x => x) (fun x hx => ?_)]
      · simp [eq_nil hg (by decide), desc_adj, isBars]
        rw [List.all_map] at q
        intro _
        simpa using q
      · obtain ⟨i, hi, rfl⟩ := mem_rng hx
        have l1 : i < (ps.map pr).length := by rw [List.length_map]; omega
        have l2 : i + 1 < (ps.map pr).length := by rw [List.length_map]; omega
        have l3 : i < ps.length := by omega
        have l4 : i + 1 < ps.length := by omega
        have e1 : ((1 : Int) + i - 1) = (i : Int) := by omega
        have e2 : ((1 : Int) + i) = ((i + 1 : Nat) : Int) := by omega
        have i1 := idx_t (ps.map pr) i (pr ps[i]) (by rw [List.getElem?_map, List.getElem?_eq_getElem l3] <;> rfl)
        have i2 := idx_t (ps.map pr) (i + 1) (pr ps[i + 1]) (by rw [List.getElem?_map, List.getElem?_eq_getElem l4] <;> rfl)
        have i2' : idxD (.tuple (ps.map pr)) (.int (1 + (i : Int))) = some (pr ps[i + 1]) := by rw [e2]; exact i2
        have hd : desc ps (.int (1 + (i : Int))) = !PySem.W.dataLt (pr ps[i]) (pr ps[i + 1]) := by
          have t1 : ((1 : Int) + i - 1).toNat = i := by omega
          have t2 : ((1 : Int) + i).toNat = i + 1 := by omega
          unfold desc
          simp only [t1, t2, List.getElem?_map, List.getElem?_eq_getElem l3, List.getElem?_eq_getElem l4, Option.map_some]
        simp [asgn, wipe, e1, i1, i2', ge_pr, hd]
        cases PySem.W.dataLt (pr ps[i]) (pr ps[i + 1]) <;> simp
    · rw [if_neg q] at hf
      have q : xs.all (barOk n) = false := by simpa using q
      have : isBars n (.tuple xs) = false := by simp only [isBars, q, Bool.false_and]
      rw [this]
      exact seq_rt (for_of (d := .tuple xs) rfl rfl hf)
  | _ => simp [f16, y16, ex, ev, startE, getV, isiD, isBars]

/-! the least pair in one pot -/
def prl (p : Int × Int) : D := .list [.int p.1, .int p.2]
def eqAt (vs : List Int) (p : Int × Int) : Bool := decide (vs[p.1.toNat]? = vs[p.2.toNat]?)
def inR (n : Nat) (p : Int × Int) : Prop := 0 ≤ p.1 ∧ p.1 < n ∧ 0 ≤ p.2 ∧ p.2 < n
def firstD (ps : List (Int × Int)) (vs : List Int) : D := match ps.filter (eqAt vs) with
  | [] => .none
  | p :: _ => pr p
theorem at_t {vs : List Int} {i : Int} (h0 : 0 ≤ i) (h1 : i < vs.length) : ∃ v, vs[i.toNat]? = some v ∧ idxD (.tuple (vs.map .int)) (.int i) = some (.int v) ∧ idxD (.list (vs.map .int)) (.int i) = some (.int v) := by
  have hl : i.toNat < vs.length := by omega
  refine ⟨vs[i.toNat], List.getElem?_eq_getElem hl, ?_, ?_⟩
  · rw [idx_ti h0 (by simpa using h1)]
    simp
  · rw [idx_li h0 (by simpa using h1)]
    simp
theorem first_end (φ : Phi) (x : D) (ps : List (Int × Int)) (vs : List Int) (a b c d e : Sl) (bx : Bx) : ex φ (.seq (.ret (.ite (.cmp .gt (.bi .len (.cons (.var 3) (.nil))) (.cst (.int 0))) (.idx (.var 3) (.cst (.int 0))) (.cst .none))) (.nop)) [a, b, c, .v (.list ((ps.filter (eqAt vs)).map pr)), d, e] bx = .rt (firstD ps vs) bx := by
  cases q : ps.filter (eqAt vs) with
  | nil => simp [ex, ev, getV, firstD, q]
  | cons p r =>
    have h0 : (0 : Int) < (r.length : Int) + 1 := by omega
    simp [ex, ev, getV, firstD, q, h0]
theorem w4t (k : Nat) (ds : D) (ps : List (Int × Int)) (vs : List Int) (b : Bx) (h : ∀ p ∈ ps, inR vs.length p) (hl : ps.length ≤ line) : φ (k + 1) 4 [ds, .tuple (ps.map pr), .tuple (vs.map .int)] b = .ok (firstD ps vs) b := by
  rw [r4]
  refine run_rt rfl ?_
  refine seq_nx (e1 := [.v ds, .v (.tuple (ps.map pr)), .v (.tuple (vs.map .int)), .v (.list ((ps.filter (eqAt vs)).map pr)), .no, .no]) (b1 := b) (setS_of ?_) (first_end _ ds _ _ _ _ _ _ _ _)
  simp [f4, ev, startE, getV, List.replicate, hl]
  rw [lcL_filter_map (p := eqAt vs) (g := pr) (fun p hp => ?_)]
  · simp
  · obtain ⟨a1, a2, a3, a4⟩ := h p hp
    obtain ⟨u, u1, u2, _⟩ := at_t a1 a2
    obtain ⟨v, v1, v2, _⟩ := at_t a3 a4
    have hq : eqAt vs p = decide (u = v) := by simp [eqAt, u1, v1]
    simp [asgn, wipe, pr, u2, v2, hq]
    by_cases c : u = v <;> simp [c, line]
theorem w4l (k : Nat) (ds : D) (ps : List (Int × Int)) (vs : List Int) (b : Bx) (h : ∀ p ∈ ps, inR vs.length p) (hl : ps.length ≤ line) : φ (k + 1) 4 [ds, .list (ps.map prl), .list (vs.map .int)] b = .ok (firstD ps vs) b := by
  rw [r4]
  refine run_rt rfl ?_
  refine seq_nx (e1 := [.v ds, .v (.list (ps.map prl)), .v (.list (vs.map .int)), .v (.list ((ps.filter (eqAt vs)).map pr)), .no, .no]) (b1 := b) (setS_of ?_) (first_end _ ds _ _ _ _ _ _ _ _)
  simp [f4, ev, startE, getV, List.replicate, hl]
  rw [lcL_filter_map (p := eqAt vs) (g := pr) (fun p hp => ?_)]
  · simp
  · obtain ⟨a1, a2, a3, a4⟩ := h p hp
    obtain ⟨u, u1, _, u2⟩ := at_t a1 a2
    obtain ⟨v, v1, _, v2⟩ := at_t a3 a4
    have hq : eqAt vs p = decide (u = v) := by simp [eqAt, u1, v1]
    simp [asgn, wipe, prl, pr, u2, v2, hq]
    by_cases c : u = v <;> simp [c, line]
theorem w5 (k : Nat) (ds : D) (ps : List (Int × Int)) (vs : List Int) (b : Bx) (h : ∀ p ∈ ps, inR vs.length p) (hl : ps.length ≤ line) : φ (k + 2) 5 [ds, .tuple (ps.map pr), .tuple (vs.map .int)] b = .ok (.bool (isNo (firstD ps vs))) b := by
  rw [r5]
  refine run_rt rfl ?_
  simp [f5, y5, ex, ev, startE, getV, w4t k ds ps vs b0 h hl]
theorem w14 (k : Nat) (ps : List (Int × Int)) (vs : List Int) (b : Bx) (h : ∀ p ∈ ps, inR vs.length p) (hl : ps.length ≤ line) : φ (k + 1) 14 [.tuple (ps.map pr), .tuple (vs.map .int)] b = .ok (firstD ps vs) b := by
  rw [r14]
  refine run_rt rfl ?_
  refine seq_nx (e1 := [.v (.tuple (ps.map pr)), .v (.tuple (vs.map .int)), .v (.list ((ps.filter (eqAt vs)).map pr)), .no]) (b1 := b) (setS_of ?_) ?_
  · simp [f14, ev, startE, getV, List.replicate, hl]
    rw [lcL_filter_map (p := eqAt vs) (g := pr) (fun p hp => ?_)]
    · simp
    · obtain ⟨a1, a2, a3, a4⟩ := h p hp
      obtain ⟨u, u1, u2, _⟩ := at_t a1 a2
      obtain ⟨v, v1, v2, _⟩ := at_t a3 a4
      have hq : eqAt vs p = decide (u = v) := by simp [eqAt, u1, v1]
      have i0 : idxD (pr p) (.int 0) = some (.int p.1) := rfl
      have i1 : idxD (pr p) (.int 1) = some (.int p.2) := rfl
      simp [asgn, wipe, i0, i1, u2, v2, hq]
      by_cases c : u = v <;> simp [c]
  · have hg : gd 2 (.list ((ps.filter (eqAt vs)).map pr)) = true := gd_list (by rw [List.length_map]; exact Nat.le_trans (List.length_filter_le _ _) hl) (fun x hx => by
      obtain ⟨p, _, rfl⟩ := List.mem_map.mp hx
      exact gd_tuple (by simp [line]) (by simp [gd]))
    have hn := ne_nil hg (by decide)
    cases q : ps.filter (eqAt vs) with
    | nil =>
      rw [q] at hn
      simp [ex, ev, getV, firstD, q, line] at hn ⊢
      simp [hn]
    | cons p r =>
      rw [q] at hn
      simp [ex, ev, getV, firstD, q, line] at hn ⊢
      simp [hn]
theorem w9 (k n : Nat) (d : D) (b : Bx) (h : gd n d = true) (hk : n < k) : φ k 9 [d] b = .ok (toL n d) b := lists_ok (T := tblOf T.DL) (self := 9) rfl n k d b h hk

/-! all books of so many debts: run -/
def bkOk (n : Nat) (r : R D) : Bool := match r with
  | .ok (.list xs) _ => decide (xs.length ≤ 1000) && xs.all fun x => match x with
    | .tuple ys => decide (ys.length = n) && ys.all isN
    | _ => false
  | _ => false
theorem isN_ints : ∀ {ys : List D}, ys.all isN = true → ∃ vs : List Int, ys = vs.map .int
  | [], _ => ⟨[], rfl⟩
  | y :: ys, h => by
    rw [List.all_cons, Bool.and_eq_true] at h
    obtain ⟨vs, rfl⟩ := isN_ints h.2
    cases y with
    | int i => exact ⟨i :: vs, rfl⟩
    | _ => cases h.1
theorem bk_of {n : Nat} {r : R D} (h : bkOk n r = true) : ∃ (xs : List D) (b : Bx), r = .ok (.list xs) b ∧ xs.length ≤ 1000 ∧ ∀ x ∈ xs, ∃ vs : List Int, x = .tuple (vs.map .int) ∧ vs.length = n := by
  unfold bkOk at h
  split at h
  · rename_i xs b
    rw [Bool.and_eq_true, List.all_eq_true] at h
    refine ⟨xs, b, rfl, of_decide_eq_true h.1, fun x hx => ?_⟩
    have := h.2 x hx
    split at this
    · rename_i ys
      rw [Bool.and_eq_true] at this
      obtain ⟨vs, rfl⟩ := isN_ints this.2
      have l := of_decide_eq_true this.1
      rw [List.length_map] at l
      exact ⟨vs, rfl, l⟩
    · cases this
  · cases h
theorem w13 : ∀ n : Nat, n ≤ 5 → ∃ (xs : List D) (b : Bx), φ 20 13 [.int n] b0 = .ok (.list xs) b ∧ xs.length ≤ 1000 ∧ ∀ x ∈ xs, ∃ vs : List Int, x = .tuple (vs.map .int) ∧ vs.length = n
  | 0, _ => bk_of (by decide +kernel)
  | 1, _ => bk_of (by decide +kernel)
  | 2, _ => bk_of (by decide +kernel)
  | 3, _ => bk_of (by decide +kernel)
  | 4, _ => bk_of (by decide +kernel)
  | 5, _ => bk_of (by decide +kernel)
  | n + 6, h => by omega

/-! drawn debts -/
def tags : List D := [.str "a", .str "ab", .str "b", .str "x", .str "zz"]
theorem w11 (m : Nat) (b : Bx) (hb : Bl (m + 12) b) : ∃ ts b', φ 20 11 [.int 5] b = .ok (.tuple ts) b' ∧ ts.length ≤ 5 ∧ (∀ t ∈ ts, gd 1 t = true) ∧ Bl m b' := by
  obtain ⟨r, b1, t1, t2, t3, hb1⟩ := takes 18 4 (m + 11) b (by decide) (by decide) hb
  obtain ⟨q, b2, q1, q2, q3, hb2⟩ := takes 18 6 (m + 10) b1 (by decide) (by decide) hb1
  have hc : ∃ tg : List D, cutD tags none (some (2 + r)) = tg ∧ 2 ≤ tg.length ∧ tg.length ≤ 5 ∧ ∀ t ∈ tg, gd 0 t = true := by
    rcases (by omega : r = 0 ∨ r = 1 ∨ r = 2 ∨ r = 3) with rfl | rfl | rfl | rfl <;> exact ⟨_, rfl, by decide, by decide, by decide +kernel⟩
  obtain ⟨tg, c1, c2, c3, c4⟩ := hc
  have rng : rngD [.int q] = some (rngUp 0 q.toNat) := by
    have := rng_n (n := q.toNat) (by omega)
    rwa [show ((q.toNat : Nat) : Int) = q by omega] at this
  obtain ⟨e', b', f1, f2⟩ := forL_nx (body := fun x e b => match asgn (.nm 4) x e with
      | none => .no
      | some e' => ex (φ 19) (.seq (.set 5 false (.callB 7 (.cons (.bi .len (.cons (.var 2) (.nil))) (.nil)))) (.seq (.app 3 (.tup (.cons (.idx (.var 2) (.var 5)) (.cons (.idx (.var 2) (.bin .mod (.bi .int_ (.cons (.bin .add (.bin .add (.var 5) (.cst (.int 1))) (.callB 7 (.cons (.bin .sub (.bi .len (.cons (.var 2) (.nil))) (.cst (.int 1))) (.nil)))) (.nil))) (.bi .len (.cons (.var 2) (.nil))))) (.nil))))) (.nop))) e' b)
    (I := fun xs e b => ∃ (found : List D) (e4 e5 : Sl), e = [.no, .v (.int 5), .v (.list tg), .o (.list found), e4, e5] ∧ found.length + xs.length ≤ 5 ∧ (∀ t ∈ found, gd 1 t = true) ∧ Bl (m + 2 * xs.length) b) (fun x xs e b ⟨found, e4, e5, he, hl, hg, hbl⟩ => by
      subst he
      obtain ⟨u, b3, u1, u2, u3, hb3⟩ := takes 18 (tg.length : Int) (m + 2 * xs.length + 1) b (by omega) (by omega) (hbl.le (by simp; omega))
      obtain ⟨v, b4, v1, v2, v3, hb4⟩ := takes 18 ((tg.length : Int) - 1) (m + 2 * xs.length) b3 (by omega) (by omega) hb3
      have hm := fmod_lt (i := u + 1 + v) (j := (tg.length : Int)) (by omega)
      have i1 := idx_li (xs := tg) u2 (by omega)
      have i2 := idx_li (xs := tg) hm.1 hm.2
      refine ⟨[.no, .v (.int 5), .v (.list tg), .o (.list (found ++ [.tuple [tg[u.toNat]'(by omega), tg[((u + 1 + v).fmod (tg.length : Int)).toNat]'(by omega)]])), .v x, .v (.int u)], b4, ?_, ?_⟩
      · have hll : found.length < line := Nat.lt_of_le_of_lt (by simp at hl; omega : found.length ≤ 5) (by decide)
        have h2 : 2 ≤ line := by decide
        simp [asgn, ex, ev, getV, getO, u1, v1, mod_i (show (0 : Int) < (tg.length : Int) by omega), i1, i2, hll, h2]
      · refine ⟨_, _, _, rfl, by simp at hl ⊢; omega, fun t ht => ?_, hb4⟩
        rcases List.mem_append.mp ht with ht | ht
        · exact hg t ht
        · have ht := List.mem_singleton.mp ht
          subst ht
          exact gd_tuple (by simp [line]) (fun y hy => by
            rcases List.mem_cons.mp hy with hy | hy
            · subst hy
              exact c4 _ (List.getElem_mem _)
            · have hy := List.mem_singleton.mp hy
              subst hy
              exact c4 _ (List.getElem_mem _)))
    (rngUp 0 q.toNat) [.no, .v (.int 5), .v (.list tg), .o (.list []), .no, .no] b2 ⟨[], _, _, rfl, by rw [rngUp_len']; simp; omega, (fun t ht => by cases ht), hb2.le (by rw [rngUp_len']; omega)⟩
  obtain ⟨found, e4, e5, rfl, hl, hg, hbl⟩ := f2
  refine ⟨found, b', ?_, by simpa using hl, hg, hbl.le (by simp)⟩
  rw [r11]
  refine run_rt rfl ?_
  refine seq_nx (e1 := [.no, .v (.int 5), .v (.list tg), .no, .no, .no]) (b1 := b1) ?_ (seq_nx (e1 := [.no, .v (.int 5), .v (.list tg), .o (.list []), .no, .no]) (b1 := b1) ?_ (seq_nx (for_of (d := .list (rngUp 0 q.toNat)) (b1 := b2) ?_ rfl f1) (seq_rt (ret_of ?_))))
  · have h5 : 5 ≤ line := by decide
    have : cutD [.str "a", .str "ab", .str "b", .str "x", .str "zz"] none (some (2 + r)) = tg := c1
    simp [f11, startE, ex, ev, getV, partE, slcD, t1, this, h5]
  · simp [ex, ev]
  · simp [ev, getV, q1, rng]
  · simp [ev, getO]
    rfl

/-! drawn bars -/
theorem w12 (n m : Nat) (b : Bx) (hn : n ≤ 5) (hb : Bl (m + 25) b) : ∃ (ps : List (Int × Int)) (b' : Bx), φ 20 12 [.int n] b = .ok (.tuple (ps.map pr)) b' ∧ ps.length ≤ 25 ∧ (∀ p ∈ ps, inR n p) ∧ Bl m b' := by
  obtain ⟨e', b', f1, f2⟩ := forL_nx (body := fun x e b => match asgn (.nm 3) x e with
      | none => .no
      | some e' => ex (φ 19) (.seq (.forr (.nm 4) (.rng (.cons (.bin .add (.var 3) (.cst (.int 1))) (.cons (.var 1) (.nil)))) (.seq (.iff (.cmp .eq (.callB 7 (.cons (.cst (.int 4)) (.nil))) (.cst (.int 0))) (.seq (.app 2 (.tup (.cons (.var 3) (.cons (.var 4) (.nil))))) (.nop)) (.nop)) (.nop))) (.nop)) e' b)
    (I := fun xs e b => ∃ (ps : List (Int × Int)) (e3 e4 : Sl), e = [.no, .v (.int n), .o (.list (ps.map pr)), e3, e4] ∧ ps.length + 5 * xs.length ≤ 25 ∧ (∀ p ∈ ps, inR n p) ∧ (∀ x ∈ xs, ∃ j : Nat, x = .int j ∧ j < n) ∧ Bl (m + 5 * xs.length) b) (fun x xs e b ⟨ps, e3, e4, he, hl, hg, hx, hbl⟩ => by
      subst he
      obtain ⟨j, rfl, hj⟩ := hx x List.mem_cons_self
      have rng : rngD [.int ((j : Int) + 1), .int (n : Int)] = some (rngUp ((j : Int) + 1) (n - (j + 1))) := by
        rw [rng_2 (by omega) (by omega)]
        congr 2
        omega
      simp at hl
      obtain ⟨e', b', g1, g2⟩ := forL_nx (body := fun x e b => match asgn (.nm 4) x e with
          | none => .no
          | some e' => ex (φ 19) (.seq (.iff (.cmp .eq (.callB 7 (.cons (.cst (.int 4)) (.nil))) (.cst (.int 0))) (.seq (.app 2 (.tup (.cons (.var 3) (.cons (.var 4) (.nil))))) (.nop)) (.nop)) (.nop)) e' b)
        (I := fun ys e b => ∃ (qs : List (Int × Int)) (e4 : Sl), e = [.no, .v (.int n), .o (.list (qs.map pr)), .v (.int (j : Int)), e4] ∧ qs.length + ys.length + 5 * xs.length ≤ 25 ∧ (∀ p ∈ qs, inR n p) ∧ (∀ y ∈ ys, ∃ i : Nat, y = .int i ∧ i < n) ∧ Bl (m + 5 * xs.length + ys.length) b) (fun y ys e b ⟨qs, e4, he, hl, hg, hy, hbl⟩ => by
          subst he
          obtain ⟨i, rfl, hi⟩ := hy y List.mem_cons_self
          obtain ⟨r, b3, r1, r2, r3, hb3⟩ := takes 18 4 (m + 5 * xs.length + ys.length) b (by decide) (by decide) (hbl.le (by simp; omega))
          simp at hl
          by_cases c : r = 0
          · subst c
            refine ⟨[.no, .v (.int n), .o (.list ((qs ++ [((j : Int), (i : Int))]).map pr)), .v (.int (j : Int)), .v (.int (i : Int))], b3, ?_, ?_⟩
            · have hll : qs.length < line := Nat.lt_of_le_of_lt (by omega : qs.length ≤ 25) (by decide)
              have h2 : 2 ≤ line := by decide
              simp [asgn, ex, ev, getV, getO, r1, hll, h2, pr]
            · refine ⟨_, _, rfl, by simp; omega, fun p hp => ?_, fun y hy' => hy y (List.mem_cons_of_mem _ hy'), hb3⟩
              rcases List.mem_append.mp hp with hp | hp
              · exact hg p hp
              · have hp := List.mem_singleton.mp hp
                subst hp
                exact ⟨by simp, by simp; omega, by simp, by simp; omega⟩
          · refine ⟨[.no, .v (.int n), .o (.list (qs.map pr)), .v (.int (j : Int)), .v (.int (i : Int))], b3, ?_, ⟨qs, _, rfl, by omega, hg, fun y hy' => hy y (List.mem_cons_of_mem _ hy'), hb3⟩⟩
            simp [asgn, ex, ev, getV, getO, r1, c])
        (rngUp ((j : Int) + 1) (n - (j + 1))) [.no, .v (.int n), .o (.list (ps.map pr)), .v (.int (j : Int)), e4] b ⟨ps, _, rfl, by rw [rngUp_len']; omega, hg, (fun y hy => by
          obtain ⟨i, hi, rfl⟩ := mem_rng hy
          exact ⟨j + 1 + i, by congr 1, by omega⟩), hbl.le (by rw [rngUp_len']; simp; omega)⟩
      obtain ⟨qs, e4', rfl, hl', hg', _, hbl'⟩ := g2
      refine ⟨_, b', seq_nx (for_of (d := .list (rngUp ((j : Int) + 1) (n - (j + 1)))) (b1 := b) ?_ rfl g1) rfl, ⟨qs, _, _, rfl, by simp at hl'; omega, hg', fun y hy' => hx y (List.mem_cons_of_mem _ hy'), hbl'.le (by simp)⟩⟩
      simp [ev, getV, rng])
    (rngUp 0 n) [.no, .v (.int n), .o (.list []), .no, .no] b ⟨[], _, _, rfl, by rw [rngUp_len']; simp; omega, (fun t ht => by cases ht), (fun x hx => by
      obtain ⟨i, hi, rfl⟩ := mem_rng hx
      exact ⟨i, by congr 1; omega, hi⟩), hb.le (by rw [rngUp_len']; omega)⟩
  obtain ⟨ps, e3, e4, rfl, hl, hg, _, hbl⟩ := f2
  refine ⟨ps, b', ?_, by simpa using hl, hg, hbl.le (by simp)⟩
  rw [r12]
  refine run_rt rfl ?_
  refine seq_nx (e1 := [.no, .v (.int n), .o (.list []), .no, .no]) (b1 := b) ?_ (seq_nx (for_of (d := .list (rngUp 0 n)) (b1 := b) ?_ rfl f1) (seq_rt (ret_of ?_)))
  · simp [f12, startE, ex, ev]
  · simp [ev, getV, rng_n (n := n) (by omega)]
  · simp [ev, getO]
    rfl

/-! bars, bent -/
theorem sh_pr (p : Int × Int) : sh (pr p) := by
  show (2 : Nat) ≤ line
  decide
theorem sh2_of {xs : List D} (h1 : xs.length ≤ 1000) (h2 : ∀ x ∈ xs, sh x) : sh2 (.tuple xs) ∧ ∀ ys, PyData.tuple xs = .tuple ys → ys.length ≤ 1000 :=
  ⟨⟨Nat.le_trans h1 (by decide), h2⟩, fun ys e => by cases e; exact h1⟩
theorem w17 (n m : Nat) (ps : List (Int × Int)) (b : Bx) (hp : ps.length ≤ 25) (hb : Bl (m + 3) b) : ∃ d b', φ 20 17 [.tuple (ps.map pr), .int n] b = .ok d b' ∧ (sh2 d ∧ ∀ xs, d = .tuple xs → xs.length ≤ 1000) ∧ Bl m b' := by
  obtain ⟨r, b1, t1, t2, t3, hb1⟩ := takes 18 8 (m + 2) b (by decide) (by decide) hb
  obtain ⟨x, b2, x1, x2, hb2⟩ := of_ok (φ := φ 18) (φ' := φ 17) (take := 7) (xs := [.int 0, .int (-1), .int n, .bool true, .none, .str "0", .tuple [], .int 1]) (m := m + 1) (r7 17) (by simp) (by simp) hb1
  have hx : sh x := by
    simp only [List.mem_cons, List.not_mem_nil, or_false] at x2
    rcases x2 with rfl | rfl | rfl | rfl | rfl | rfl | rfl | rfl
    all_goals first
      | trivial
      | exact Nat.zero_le _
  have hox : φ 19 10 [.list [.int 0, .int (-1), .int n, .bool true, .none, .str "0", .tuple [], .int 1]] b1 = .ok x b2 := x1
  have h8 : 8 ≤ line := by decide
  have h2l : 2 ≤ line := by decide
  have h1l : 1 ≤ line := by decide
  have h0l : 0 ≤ line := by decide
  have hpl : ps.length + 1 ≤ line := Nat.le_trans (by omega : ps.length + 1 ≤ 26) (by decide)
  have main : ∃ d b', ex (φ 19) f17.body (startE f17.bx f17.slots [.tuple (ps.map pr), .int n]) b = .rt d b' ∧ (sh2 d ∧ ∀ xs, d = .tuple xs → xs.length ≤ 1000) ∧ Bl m b' := by
    have e12 : ∀ {y : IS} {o : Out}, ex (φ 19) y [.no, .v (.tuple (ps.map pr)), .v (.int n), .v (.int r), .o (.list (ps.map pr)), .v x, .no] b2 = o →
        ex (φ 19) (.seq (.par2 3 false 4 true (.callB 7 (.cons (.cst (.int 8)) (.nil))) (.bi .list_ (.cons (.var 1) (.nil)))) (.seq (.set 5 false (.callB 10 (.cons (.lst (.cons (.cst (.int 0)) (.cons (.neg (.cst (.int 1))) (.cons (.var 2) (.cons (.cst (.bool true)) (.cons (.cst .none) (.cons (.cst (.str "0")) (.cons (.tup (.nil)) (.cons (.cst (.int 1)) (.nil)))))))))) (.nil)))) y)) (startE f17.bx f17.slots [.tuple (ps.map pr), .int n]) b = o := fun {y o} hy => by
      refine seq_nx (e1 := [.no, .v (.tuple (ps.map pr)), .v (.int n), .v (.int r), .o (.list (ps.map pr)), .no, .no]) (b1 := b1) ?_ (seq_nx (e1 := [.no, .v (.tuple (ps.map pr)), .v (.int n), .v (.int r), .o (.list (ps.map pr)), .v x, .no]) (b1 := b2) ?_ hy)
      · simp [f17, startE, ex, ev, getV, t1, biD, fList]
      · simp [ex, ev, getV, hox, h8, h0l]
    by_cases c0 : r = 0
    · subst c0
      refine ⟨.list (ps.map pr), b2, e12 (seq_rt (iff_t (d := .bool true) (b1 := b2) ?_ rfl ?_)), ⟨trivial, fun xs e => by cases e⟩, hb2.le (by omega)⟩
      · simp [ev, getV]
      · simp [ex, ev, getV, freeze, getO]
    · have p3 : ev (φ 19) (.cmp .eq (.var 3) (.cst (.int 0))) [.no, .v (.tuple (ps.map pr)), .v (.int n), .v (.int r), .o (.list (ps.map pr)), .v x, .no] b2 = .ok (.bool false) b2 := by simp [ev, getV, c0]
      have hg : gd 2 (.list (ps.map pr)) = true := gd_list (by rw [List.length_map]; omega) (fun y hy => by
        obtain ⟨p, _, rfl⟩ := List.mem_map.mp hy
        exact gd_tuple (by simp [line]) (by simp [gd]))
      have hnil := eq_nil hg (by decide)
      by_cases c1 : ps = [] ∨ r = 1
      · refine ⟨.tuple (ps.map pr ++ [.tuple [.int 0, x]]), b2, e12 (seq_nx (iff_f p3 rfl rfl) (seq_rt (iff_t (d := .bool true) (b1 := b2) ?_ rfl ?_))), sh2_of (by simp; omega) (fun y hy => ?_), hb2.le (by omega)⟩
        · rcases c1 with c1 | c1
          · subst c1
            simp [ev, getV, getO, h0l] at hnil ⊢
            simp [hnil]
          · subst c1
            simp [ev, getV, getO, h0l, hnil]
            cases ps <;> simp
        · simp [ex, ev, getV, getO, h2l, h1l, binD, hpl, biD, fTuple]
        · rcases List.mem_append.mp hy with hy | hy
          · obtain ⟨p, _, rfl⟩ := List.mem_map.mp hy
            exact sh_pr p
          · have hy := List.mem_singleton.mp hy
            subst hy
            exact h2l
      · have c2 : ps ≠ [] := fun z => c1 (.inl z)
        have c3 : r ≠ 1 := fun z => c1 (.inr z)
        have hlen : 0 < ps.length := List.length_pos_iff.mpr c2
        obtain ⟨q, b3, q1, q2, q3, hb3⟩ := takes 18 (ps.length : Int) m b2 (by omega) (by omega) hb2
        have hq : q.toNat < ps.length := by omega
        have p4 : ev (φ 19) (.or (.cmp .eq (.ovar 4) (.lst (.nil))) (.cmp .eq (.var 3) (.cst (.int 1)))) [.no, .v (.tuple (ps.map pr)), .v (.int n), .v (.int r), .o (.list (ps.map pr)), .v x, .no] b2 = .ok (.bool false) b2 := by
          simp [ev, getV, getO, h0l, hnil, c3]
          cases ps with
          | nil => exact absurd rfl c2
          | cons p ps => simp
        have e3 : ∀ {y : IS} {o : Out}, ex (φ 19) y [.no, .v (.tuple (ps.map pr)), .v (.int n), .v (.int r), .o (.list (ps.map pr)), .v x, .v (.int q)] b3 = o →
            ex (φ 19) (.seq (.iff (.cmp .eq (.var 3) (.cst (.int 0))) (.seq (.frz 4) (.seq (.ret (.var 4)) (.nop))) (.nop)) (.seq (.iff (.or (.cmp .eq (.ovar 4) (.lst (.nil))) (.cmp .eq (.var 3) (.cst (.int 1)))) (.seq (.ret (.bi .tuple_ (.cons (.bin .add (.ovar 4) (.lst (.cons (.tup (.cons (.cst (.int 0)) (.cons (.var 5) (.nil)))) (.nil)))) (.nil)))) (.nop)) (.nop)) (.seq (.set 6 false (.callB 7 (.cons (.bi .len (.cons (.ovar 4) (.nil))) (.nil)))) y))) [.no, .v (.tuple (ps.map pr)), .v (.int n), .v (.int r), .o (.list (ps.map pr)), .v x, .no] b2 = o := fun {y o} hy =>
          seq_nx (iff_f p3 rfl rfl) (seq_nx (iff_f p4 rfl rfl) (seq_nx (e1 := [.no, .v (.tuple (ps.map pr)), .v (.int n), .v (.int r), .o (.list (ps.map pr)), .v x, .v (.int q)]) (b1 := b3) (by simp [ex, ev, getO, q1]) hy))
        have hall : ∀ y ∈ ps.map pr, sh y := fun y hy => by
          obtain ⟨p, _, rfl⟩ := List.mem_map.mp hy
          exact sh_pr p
        have hset : ∀ v : D, sh v → (sh2 (.tuple ((ps.map pr).set q.toNat v)) ∧ ∀ ys, PyData.tuple ((ps.map pr).set q.toNat v) = .tuple ys → ys.length ≤ 1000) := fun v hv => sh2_of (by simp; omega) fun y hy => by
          rcases List.mem_or_eq_of_mem_set hy with hy | hy
          · exact hall y hy
          · rw [hy]
            exact hv
        have hi : idxD (.list (ps.map pr)) (.int q) = some (pr ps[q.toNat]) := by
          rw [idx_li q2 (by simpa using q3)]
          simp
        have hs : ∀ v : D, setAt (.list (ps.map pr)) (.int q) v = some (.list ((ps.map pr).set q.toNat v)) := fun v => setAt_n q2 (by simpa using q3)
        by_cases c4 : r = 2
        · subst c4
          refine ⟨.tuple (ps.map pr ++ (ps.map pr).take 1), b3, e12 (e3 (seq_rt (iff_t (d := .bool true) (b1 := b3) (by simp [ev, getV]) rfl ?_))), sh2_of (by simp; omega) (fun y hy => ?_), hb3⟩
          · have hc : cutD (ps.map pr) none (some 1) = (ps.map pr).take 1 := by
              cases ps with
              | nil => exact absurd rfl c2
              | cons p r =>
                unfold cutD
                have e1 : HT.sIx ((p :: r).map pr).length ((p :: r).map pr).length (some 1) = 1 := by
                  rw [show (1 : Int) = ((1 : Nat) : Int) from rfl, HT.sIx_nat]
                  simp
                rw [e1, HT.sIx_none]
                rfl
            have hl2 : ps.length + min 1 ps.length ≤ line := Nat.le_trans (by omega : ps.length + min 1 ps.length ≤ 26) (by decide)
            simp [ex, ev, getV, getO, partE, slcD, hc, binD, hl2, biD, fTuple]
          · rcases List.mem_append.mp hy with hy | hy
            · exact hall y hy
            · exact hall y (List.mem_of_mem_take hy)
        · by_cases c5 : r = 3
          · subst c5
            refine ⟨.tuple (ps.map pr).reverse, b3, e12 (e3 (seq_nx (iff_f (d := .bool false) (b1 := b3) (by simp [ev, getV]) rfl rfl) (seq_rt (iff_t (d := .bool true) (b1 := b3) (by simp [ev, getV]) rfl ?_)))), sh2_of (by simp; omega) (fun y hy => hall y (List.mem_reverse.mp hy)), hb3⟩
            simp [ex, ev, getV, getO, revD, biD, fTuple]
          · have e5 : ∀ {y z : IS} {o : Out} {v : D}, ex (φ 19) y [.no, .v (.tuple (ps.map pr)), .v (.int n), .v (.int r), .o (.list (ps.map pr)), .v x, .v (.int q)] b3 = .nx [.no, .v (.tuple (ps.map pr)), .v (.int n), .v (.int r), .o (.list ((ps.map pr).set q.toNat v)), .v x, .v (.int q)] b3 →
                ex (φ 19) (.seq (.iff (.cmp .eq (.var 3) (.cst (.int 2))) (.seq (.ret (.bi .tuple_ (.cons (.bin .add (.ovar 4) (.slc (.ovar 4) (.nil) (.cst (.int 1)))) (.nil)))) (.nop)) (.nop)) (.seq (.iff (.cmp .eq (.var 3) (.cst (.int 3))) (.seq (.ret (.bi .tuple_ (.cons (.rev (.ovar 4)) (.nil)))) (.nop)) (.nop)) (.seq y (.seq (.ret (.bi .tuple_ (.cons (.ovar 4) (.nil)))) (.nop))))) [.no, .v (.tuple (ps.map pr)), .v (.int n), .v (.int r), .o (.list (ps.map pr)), .v x, .v (.int q)] b3 = .rt (.tuple ((ps.map pr).set q.toNat v)) b3 := fun {y z o v} hy =>
              seq_nx (iff_f (d := .bool false) (b1 := b3) (by simp [ev, getV, c4]) rfl rfl) (seq_nx (iff_f (d := .bool false) (b1 := b3) (by simp [ev, getV, c5]) rfl rfl) (seq_nx hy (seq_rt (ret_of (by simp [ev, getO, biD, fTuple])))))
            by_cases c6 : r = 4
            · subst c6
              refine ⟨_, b3, e12 (e3 (e5 (v := .tuple [.int ps[q.toNat].2, .int ps[q.toNat].1]) (z := .nop) (o := .no) ?_)), hset _ h2l, hb3⟩
              simp [ex, ev, getV, getO, hi, revD, pr, hs]
            · by_cases c7 : r = 5
              · subst c7
                refine ⟨_, b3, e12 (e3 (e5 (v := .tuple [.int ps[q.toNat].1, x]) (z := .nop) (o := .no) ?_)), hset _ h2l, hb3⟩
                simp [ex, ev, getV, getO, hi, pr, hs, h2l]
              · by_cases c8 : r = 6
                · subst c8
                  refine ⟨_, b3, e12 (e3 (e5 (v := .list [.int ps[q.toNat].1, .int ps[q.toNat].2]) (z := .nop) (o := .no) ?_)), hset _ trivial, hb3⟩
                  simp [ex, ev, getV, getO, hi, pr, hs, biD, fList]
                · refine ⟨_, b3, e12 (e3 (e5 (v := .tuple [.int ps[q.toNat].1, .int ps[q.toNat].2, x]) (z := .nop) (o := .no) ?_)), hset _ (by show 3 ≤ line; decide), hb3⟩
                  have h3l : 3 ≤ line := by decide
                  simp [ex, ev, getV, getO, hi, pr, hs, c6, c7, c8, binD, h1l, h3l]
  obtain ⟨d, b', e, h⟩ := main
  refine ⟨d, b', ?_, h⟩
  rw [r17]
  exact run_rt rfl e

/-! the whole of one source of draws -/
theorem toL_pr (ps : List (Int × Int)) : toL 2 (.tuple (ps.map pr)) = .list (ps.map prl) := by
  show PyData.list ((ps.map pr).map (toL 1)) = _
  rw [List.map_map]
  rfl
theorem gd_first (ps : List (Int × Int)) (vs : List Int) : gd 1 (firstD ps vs) = true := by
  unfold firstD
  split
  · rfl
  · exact gd_tuple (by simp [line]) (by simp [gd])
theorem gd_prs {ps : List (Int × Int)} (h : ps.length ≤ 25) : gd 2 (.tuple (ps.map pr)) = true := gd_tuple (by rw [List.length_map]; exact Nat.le_trans h (by decide)) (fun y hy => by
  obtain ⟨p, _, rfl⟩ := List.mem_map.mp hy
  exact gd_tuple (by simp [line]) (by simp [gd]))
/-- bars and bent ones -/
theorem some_ok (ts : List D) (ps : List (Int × Int)) (n m : Nat) (b : Bx) (hn : ts.length = n) (hp : ps.length ≤ 25) (e1 e4 e5 e6 e7 e8 e9 e10 : Sl) (hb : Bl (m + 12) b) :
    ∃ ds b', ev (φ 20) (.bin .add (.lst (.cons (.var 3) (.nil))) (.lc [9] (.callB 17 (.cons (.var 3) (.cons (.bi .len (.cons (.var 2) (.nil))) (.nil)))) (.nm 9) (.rng (.cons (.cst (.int 4)) (.nil))) (.cst (.bool true)))) [.no, e1, .v (.tuple ts), .v (.tuple (ps.map pr)), e4, e5, e6, e7, e8, e9, e10] b = .ok (.list ds) b' ∧ ds.length ≤ 1000 ∧ (∀ d ∈ ds, sh2 d ∧ ∀ xs, d = .tuple xs → xs.length ≤ 1000) ∧ Bl m b' := by
  have h1l : 1 ≤ line := by decide
  have h4l : (rngUp 0 4).length ≤ line := by decide
  have rng : rngD [.int 4] = some (rngUp 0 4) := rng_n (n := 4) (by decide)
  obtain ⟨zs, b', this, r2, r3, r4⟩ := lc_draw (φ := φ 20) (own := [9]) (elt := .callB 17 (.cons (.var 3) (.cons (.bi .len (.cons (.var 2) (.nil))) (.nil)))) (tg := .nm 9) (it := .rng (.cons (.cst (.int 4)) (.nil))) (ifs := .cst (.bool true))
    (e := [.no, e1, .v (.tuple ts), .v (.tuple (ps.map pr)), e4, e5, e6, e7, e8, e9, e10]) (b := b) (b1 := b) (d := .list (rngUp 0 4)) (I := fun xs acc b => acc.length + xs.length = 4 ∧ (∀ d ∈ acc, sh2 d ∧ ∀ xs, d = .tuple xs → xs.length ≤ 1000) ∧ Bl (m + 3 * xs.length) b)
    (by simp [ev, rng]) rfl h4l ⟨by decide, (fun d hd => by cases hd), hb.le (by rw [rngUp_len']; omega)⟩ (fun x xs acc b ⟨a1, a2, a3⟩ => by
      obtain ⟨d, b', d1, d2, d3⟩ := w17 n (m + 3 * xs.length) ps b hp (a3.le (by simp; omega))
      refine ⟨_, d, b', rfl, rfl, by simp [wipe, ev, getV, hn, d1], by simp at a1 ⊢; omega, fun y hy => ?_, d3⟩
      rcases List.mem_append.mp hy with hy | hy
      · exact a2 y hy
      · rw [List.mem_singleton.mp hy]
        exact d2)
  simp at r2
  refine ⟨.tuple (ps.map pr) :: zs, b', ?_, by simp; omega, fun d hd => ?_, r4.le (by simp)⟩
  · have hl : zs.length + 1 ≤ line := by rw [r2]; decide
    show R.bind (ev (φ 20) (.lst (.cons (.var 3) (.nil))) _ b) _ = _
    have h0 : ev (φ 20) (.lst (.cons (.var 3) (.nil))) [.no, e1, .v (.tuple ts), .v (.tuple (ps.map pr)), e4, e5, e6, e7, e8, e9, e10] b = .ok (.list [.tuple (ps.map pr)]) b := by simp [ev, getV, h1l]
    rw [h0, bind_ok, this, bind_ok]
    simp [binD, Nat.add_comm, hl]
  · rcases List.mem_cons.mp hd with hd | hd
    · rw [hd]
      exact sh2_of (by simp; omega) (fun y hy => by
        obtain ⟨p, _, rfl⟩ := List.mem_map.mp hy
        exact sh_pr p)
    · exact (r3 d hd)
theorem w19 (b : Bx) (hb : Bl 490 b) : ∃ b', φ 21 19 [] b = .ok (.bool true) b' := by
  obtain ⟨e', b', f1, f2⟩ := forL_nx (body := fun x e b => match asgn (.nm 1) x e with
      | none => .no
      | some e' => ex (φ 20) (.seq (.sett (.nm 2) (.callB 11 (.cons (.cst (.int 5)) (.nil)))) (.seq (.sett (.tp (.cons (.nm 3) (.cons (.nm 4) (.nil)))) (.tup (.cons (.callB 12 (.cons (.bi .len (.cons (.var 2) (.nil))) (.nil))) (.cons (.call 9 (.cons (.var 2) (.nil))) (.nil))))) (.seq (.set 5 false (.bin .add (.lst (.cons (.var 3) (.nil))) (.lc [9] (.callB 17 (.cons (.var 3) (.cons (.bi .len (.cons (.var 2) (.nil))) (.nil)))) (.nm 9) (.rng (.cons (.cst (.int 4)) (.nil))) (.cst (.bool true))))) (.seq (.iff (.not (.call 8 (.cons (.lc [10] (.call 3 (.cons (.var 2) (.cons (.var 10) (.nil)))) (.nm 10) (.var 5) (.cst (.bool true))) (.cons (.lc [10] (.call 16 (.cons (.bi .len (.cons (.var 2) (.nil))) (.cons (.var 10) (.nil)))) (.nm 10) (.var 5) (.cst (.bool true))) (.nil))))) (.seq (.ret (.cst (.bool false))) (.nop)) (.nop)) (.seq (.forr (.nm 6) (.call 13 (.cons (.bi .len (.cons (.var 2) (.nil))) (.nil))) (.seq (.set 7 false (.call 14 (.cons (.var 3) (.cons (.var 6) (.nil))))) (.seq (.set 8 true (.lst (.cons (.call 4 (.cons (.var 2) (.cons (.var 3) (.cons (.var 6) (.nil))))) (.cons (.call 5 (.cons (.var 2) (.cons (.var 3) (.cons (.var 6) (.nil))))) (.nil))))) (.seq (.app 8 (.call 4 (.cons (.var 4) (.cons (.call 9 (.cons (.var 3) (.nil))) (.cons (.bi .list_ (.cons (.var 6) (.nil))) (.nil)))))) (.seq (.frz 8) (.seq (.iff (.not (.call 8 (.cons (.var 8) (.cons (.lst (.cons (.var 7) (.cons (.cmp .is_ (.var 7) (.cst .none)) (.cons (.var 7) (.nil))))) (.nil))))) (.seq (.ret (.cst (.bool false))) (.nop)) (.nop)) (.nop))))))) (.nop)))))) e' b)
    (I := fun xs e b => (∃ e1 e2 e3 e4 e5 e6 e7 e8 e9 e10 : Sl, e = [.no, e1, e2, e3, e4, e5, e6, e7, e8, e9, e10]) ∧ Bl (49 * xs.length) b) (fun x xs e b ⟨⟨e1, e2, e3, e4, e5, e6, e7, e8, e9, e10, he⟩, hbl⟩ => by
      subst he
      obtain ⟨ts, b1, t1, t2, t3, hb1⟩ := w11 (49 * xs.length + 37) b (hbl.le (by simp; omega))
      obtain ⟨ps, b2, p1, p2, p3, hb2⟩ := w12 ts.length (49 * xs.length + 12) b1 t2 hb1
      obtain ⟨ds, b3, d1, d2, d3, hb3⟩ := some_ok ts ps ts.length (49 * xs.length) b2 rfl p2 (.v x) (.v (toL 2 (.tuple ts))) e5 e6 e7 e8 e9 e10 hb2
      obtain ⟨sh, bb, s1, s2, s3⟩ := w13 ts.length t2
      have h2l : 2 ≤ line := by decide
      have h3l : 3 ≤ line := by decide
      have hgt : gd 2 (.tuple ts) = true := gd_tuple (Nat.le_trans t2 (by decide)) t3
      have hdl : ds.length ≤ line := Nat.le_trans d2 (by decide)
      have hpl : ps.length ≤ line := Nat.le_trans p2 (by decide)
      -- the walk over all books
      obtain ⟨e', b', g1, g2⟩ := forL_nx (body := fun x e b => match asgn (.nm 6) x e with
          | none => .no
          | some e' => ex (φ 20) (.seq (.set 7 false (.call 14 (.cons (.var 3) (.cons (.var 6) (.nil))))) (.seq (.set 8 true (.lst (.cons (.call 4 (.cons (.var 2) (.cons (.var 3) (.cons (.var 6) (.nil))))) (.cons (.call 5 (.cons (.var 2) (.cons (.var 3) (.cons (.var 6) (.nil))))) (.nil))))) (.seq (.app 8 (.call 4 (.cons (.var 4) (.cons (.call 9 (.cons (.var 3) (.nil))) (.cons (.bi .list_ (.cons (.var 6) (.nil))) (.nil)))))) (.seq (.frz 8) (.seq (.iff (.not (.call 8 (.cons (.var 8) (.cons (.lst (.cons (.var 7) (.cons (.cmp .is_ (.var 7) (.cst .none)) (.cons (.var 7) (.nil))))) (.nil))))) (.seq (.ret (.cst (.bool false))) (.nop)) (.nop)) (.nop)))))) e' b)
        (I := fun ys e b => (∃ e6 e7 e8 : Sl, e = [.no, .v x, .v (.tuple ts), .v (.tuple (ps.map pr)), .v (toL 2 (.tuple ts)), .v (.list ds), e6, e7, e8, e9, e10]) ∧ (∀ y ∈ ys, ∃ vs : List Int, y = .tuple (vs.map .int) ∧ vs.length = ts.length) ∧ b = b3) (fun y ys e b ⟨⟨e6, e7, e8, he⟩, hy, hb⟩ => by
          subst he
          subst hb
          obtain ⟨vs, rfl, hv⟩ := hy y List.mem_cons_self
          have pin : ∀ p ∈ ps, inR vs.length p := fun p hp => by rw [hv]; exact p3 p hp
          have c14 := w14 19 ps vs b0 pin hpl
          have c4 := w4t 19 (.tuple ts) ps vs b0 pin hpl
          have c5 := w5 18 (.tuple ts) ps vs b0 pin hpl
          have c9 := w9 20 2 (.tuple (ps.map pr)) b0 (gd_prs p2) (by decide)
          rw [toL_pr] at c9
          have c4' := w4l 19 (toL 2 (.tuple ts)) ps vs b0 pin hpl
          have cs := same 20 2 (.list [firstD ps vs, .bool (isNo (firstD ps vs)), firstD ps vs]) b0 (gd_list h3l (fun z hz => by
            simp only [List.mem_cons, List.not_mem_nil, or_false] at hz
            rcases hz with rfl | rfl | rfl
            · exact gd_first ps vs
            · rfl
            · exact gd_first ps vs)) (by decide) (by decide)
          refine ⟨_, b, seq_nx (e1 := [.no, .v x, .v (.tuple ts), .v (.tuple (ps.map pr)), .v (toL 2 (.tuple ts)), .v (.list ds), .v (.tuple (vs.map .int)), .v (firstD ps vs), e8, e9, e10]) (b1 := b) (by simp [ex, ev, getV, c14])
            (seq_nx (e1 := [.no, .v x, .v (.tuple ts), .v (.tuple (ps.map pr)), .v (toL 2 (.tuple ts)), .v (.list ds), .v (.tuple (vs.map .int)), .v (firstD ps vs), .o (.list [firstD ps vs, .bool (isNo (firstD ps vs))]), e9, e10]) (b1 := b) (by simp [ex, ev, getV, c4, c5, h2l])
            (seq_nx (e1 := [.no, .v x, .v (.tuple ts), .v (.tuple (ps.map pr)), .v (toL 2 (.tuple ts)), .v (.list ds), .v (.tuple (vs.map .int)), .v (firstD ps vs), .o (.list [firstD ps vs, .bool (isNo (firstD ps vs)), firstD ps vs]), e9, e10]) (b1 := b) (by simp [ex, ev, getV, getO, c9, biD, fList, c4', Nat.lt_of_lt_of_le (by decide : 2 < 3) h3l])
            (seq_nx (e1 := [.no, .v x, .v (.tuple ts), .v (.tuple (ps.map pr)), .v (toL 2 (.tuple ts)), .v (.list ds), .v (.tuple (vs.map .int)), .v (firstD ps vs), .v (.list [firstD ps vs, .bool (isNo (firstD ps vs)), firstD ps vs]), e9, e10]) (b1 := b) (by simp [ex, freeze, getO])
            (seq_nx (iff_f (d := .bool false) (b1 := b) (by simp [ev, getV, h3l, cs]) rfl rfl) rfl)))), ⟨⟨_, _, _, rfl⟩, fun z hz => hy z (List.mem_cons_of_mem _ hz), rfl⟩⟩)
        sh [.no, .v x, .v (.tuple ts), .v (.tuple (ps.map pr)), .v (toL 2 (.tuple ts)), .v (.list ds), e6, e7, e8, e9, e10] b3 ⟨⟨_, _, _, rfl⟩, s3, rfl⟩
      obtain ⟨⟨g6, g7, g8, rfl⟩, _, rfl⟩ := g2
      have c9 := w9 20 2 (.tuple ts) b0 hgt (by decide)
      have lA : ev (φ 20) (.lc [10] (.call 3 (.cons (.var 2) (.cons (.var 10) (.nil)))) (.nm 10) (.var 5) (.cst (.bool true))) [.no, .v x, .v (.tuple ts), .v (.tuple (ps.map pr)), .v (toL 2 (.tuple ts)), .v (.list ds), e6, e7, e8, e9, e10] b' = .ok (.list (ds.map fun d => .bool (isBars ts.length d))) b' := by
        exact lc_map (d := .list ds) rfl rfl hdl (fun d hd => ⟨_, rfl, rfl, by simp [wipe, ev, getV, w3 17 (.tuple ts) d ts.length b0 rfl (d3 d hd).1]⟩)
      have lB : ev (φ 20) (.lc [10] (.call 16 (.cons (.bi .len (.cons (.var 2) (.nil))) (.cons (.var 10) (.nil)))) (.nm 10) (.var 5) (.cst (.bool true))) [.no, .v x, .v (.tuple ts), .v (.tuple (ps.map pr)), .v (toL 2 (.tuple ts)), .v (.list ds), e6, e7, e8, e9, e10] b' = .ok (.list (ds.map fun d => .bool (isBars ts.length d))) b' := by
        exact lc_map (d := .list ds) rfl rfl hdl (fun d hd => ⟨_, rfl, rfl, by simp [wipe, ev, getV, w16 17 d ts.length b0 (d3 d hd).1 (d3 d hd).2]⟩)
      have cs := same 20 1 (.list (ds.map fun d => .bool (isBars ts.length d))) b0 (gd_list (by rw [List.length_map]; exact hdl) (fun z hz => by
        obtain ⟨d, _, rfl⟩ := List.mem_map.mp hz
        rfl)) (by decide) (by decide)
      refine ⟨_, b', seq_nx (e1 := [.no, .v x, .v (.tuple ts), e3, e4, e5, e6, e7, e8, e9, e10]) (b1 := b1) (by simp [ex, ev, t1, asgn, Out.ofO])
        (seq_nx (e1 := [.no, .v x, .v (.tuple ts), .v (.tuple (ps.map pr)), .v (toL 2 (.tuple ts)), e5, e6, e7, e8, e9, e10]) (b1 := b2) (by simp [ex, ev, getV, p1, c9, h2l, asgn, Out.ofO])
        (seq_nx (e1 := [.no, .v x, .v (.tuple ts), .v (.tuple (ps.map pr)), .v (toL 2 (.tuple ts)), .v (.list ds), e6, e7, e8, e9, e10]) (b1 := b') (setS_of d1)
        (seq_nx (iff_f (d := .bool false) (b1 := b') ?_ rfl rfl)
        (seq_nx (for_of (d := .list sh) (b1 := b') (by simp [ev, getV, s1]) rfl g1) rfl)))), ⟨⟨_, _, _, _, _, _, _, _, _, _, rfl⟩, hb3⟩⟩
      show R.bind (ev (φ 20) (.call 8 _) _ b') _ = _
      have : ev (φ 20) (.call 8 (.cons (.lc [10] (.call 3 (.cons (.var 2) (.cons (.var 10) (.nil)))) (.nm 10) (.var 5) (.cst (.bool true))) (.cons (.lc [10] (.call 16 (.cons (.bi .len (.cons (.var 2) (.nil))) (.cons (.var 10) (.nil)))) (.nm 10) (.var 5) (.cst (.bool true))) (.nil)))) [.no, .v x, .v (.tuple ts), .v (.tuple (ps.map pr)), .v (toL 2 (.tuple ts)), .v (.list ds), e6, e7, e8, e9, e10] b' = .ok (.bool true) b' := by
        show R.bind (R.bind (ev (φ 20) (.lc [10] (.call 3 _) _ _ _) _ b') _) _ = _
        rw [lA, bind_ok]
        show R.bind (R.bind (R.bind (ev (φ 20) (.lc [10] (.call 16 _) _ _ _) _ b') _) _) _ = _
        rw [lB]
        simp [ev, cs]
      rw [this]
      rfl)
    (rngUp 0 10) [.no, .no, .no, .no, .no, .no, .no, .no, .no, .no, .no] b ⟨⟨_, _, _, _, _, _, _, _, _, _, rfl⟩, hb⟩
  refine ⟨b', ?_⟩
  rw [r19]
  refine run_rt rfl ?_
  refine seq_nx (for_of (d := .list (rngUp 0 10)) (b1 := b) ?_ rfl f1) (seq_rt (ret_of rfl))
  have : rngD [.int 10] = some (rngUp 0 10) := rng_n (n := 10) (by decide)
  simp [ev, this]
theorem hand_true : ∃ bh, φ 21 lw.hand [] b0 = .ok (.bool true) bh := okTrue_of (by decide +kernel)
theorem draws_true : ∀ xs : List Int, 0 < xs.length → xs.length ≤ 3 → ∃ b, ex (φ 21) (lawRet lw.right lw.box) [.no, .v (.list (xs.map PyData.int)), .no] b0 = .rt (.bool true) b := fun xs _ hl =>
  ret_ok (φ' := φ 20) (seed := 1054358) (r6 20) (fun p q => w19 (p, q, 0) ⟨Int.le_refl 0, by show (0 : Int) + 490 ≤ 1152921504606846976; decide⟩) hl
end Lw
/-! text E_k58 -/
set_option Elab.async false
set_option linter.all false
set_option maxRecDepth 100000
set_option maxHeartbeats 4000000
namespace Lw
open PySem PySem.Spec L2 Dv
theorem all_mk {l : PySem.W.OpenLaw} {w : World} {K : PySem.W.Frag} {h : Heap} {mg : Str → Option Value} {fa : Addr} (X : K.In h) (G : h.Ns mainGlobals mg) (hfa : mg "law" = some (.ref fa))
    {e0 : Addr} {od0 an0 : Option Addr} {sl0 : Array (Option Value)} {oc0 kV0 dc0 pm0 cd0 ct0 : Value}
    {e1 : Addr} {od1 an1 : Option Addr} {sl1 : Array (Option Value)} {oc1 kV1 dc1 pm1 cd1 ct1 : Value}
    {e2 : Addr} {od2 an2 : Option Addr} {sl2 : Array (Option Value)} {oc2 kV2 dc2 pm2 cd2 ct2 : Value}
    {e3 : Addr} {od3 an3 : Option Addr} {sl3 : Array (Option Value)} {oc3 kV3 dc3 pm3 cd3 ct3 : Value}
    {e4 : Addr} {od4 an4 : Option Addr} {sl4 : Array (Option Value)} {oc4 kV4 dc4 pm4 cd4 ct4 : Value}
    {e5 : Addr} {od5 an5 : Option Addr} {sl5 : Array (Option Value)} {oc5 kV5 dc5 pm5 cd5 ct5 : Value}
    {e6 : Addr} {od6 an6 : Option Addr} {sl6 : Array (Option Value)} {oc6 kV6 dc6 pm6 cd6 ct6 : Value}
    {e7 : Addr} {od7 an7 : Option Addr} {sl7 : Array (Option Value)} {oc7 kV7 dc7 pm7 cd7 ct7 : Value}
    {e8 : Addr} {od8 an8 : Option Addr} {sl8 : Array (Option Value)} {oc8 kV8 dc8 pm8 cd8 ct8 : Value}
    {e9 : Addr} {od9 an9 : Option Addr} {sl9 : Array (Option Value)} {oc9 kV9 dc9 pm9 cd9 ct9 : Value}
    {e10 : Addr} {od10 an10 : Option Addr} {sl10 : Array (Option Value)} {oc10 kV10 dc10 pm10 cd10 ct10 : Value}
    {e11 : Addr} {od11 an11 : Option Addr} {sl11 : Array (Option Value)} {oc11 kV11 dc11 pm11 cd11 ct11 : Value}
    {e12 : Addr} {od12 an12 : Option Addr} {sl12 : Array (Option Value)} {oc12 kV12 dc12 pm12 cd12 ct12 : Value}
    {e13 : Addr} {od13 an13 : Option Addr} {sl13 : Array (Option Value)} {oc13 kV13 dc13 pm13 cd13 ct13 : Value}
    {e14 : Addr} {od14 an14 : Option Addr} {sl14 : Array (Option Value)} {oc14 kV14 dc14 pm14 cd14 ct14 : Value}
    {e15 : Addr} {od15 an15 : Option Addr} {sl15 : Array (Option Value)} {oc15 kV15 dc15 pm15 cd15 ct15 : Value}
    {e16 : Addr} {od16 an16 : Option Addr} {sl16 : Array (Option Value)} {oc16 kV16 dc16 pm16 cd16 ct16 : Value}
    {e17 : Addr} {od17 an17 : Option Addr} {sl17 : Array (Option Value)} {oc17 kV17 dc17 pm17 cd17 ct17 : Value}
    {e18 : Addr} {od18 an18 : Option Addr} {sl18 : Array (Option Value)} {oc18 kV18 dc18 pm18 cd18 ct18 : Value}
    {e19 : Addr} {od19 an19 : Option Addr} {sl19 : Array (Option Value)} {oc19 kV19 dc19 pm19 cd19 ct19 : Value}
    {ec : Addr} {odc anc : Option Addr} {slc : Array (Option Value)} {occ kVc dcc pmc cdc ctc : Value}
    {el : Addr} {odl anl : Option Addr} {sll : Array (Option Value)} {ocl kVl dcl pml cdl ctl : Value}
    (a0 : PySem.W.nsIn K mainGlobals "is_number" = some (some (.ref e0))) (l0 : K.lookup e0 = some ⟨oc0, od0, .func (PySem.W.fnOf "is_number" "is_number" (defArgs s0) (defBody s0) (defScope s0) .none kV0 dc0 pm0 an0 cd0 ct0), sl0⟩) (c0 : PySem.W.codeIn K cd0 "is_number" = true) (k0 : PySem.W.keepIn K (.ref e0) = true)
    (a1 : PySem.W.nsIn K mainGlobals "rises" = some (some (.ref e1))) (l1 : K.lookup e1 = some ⟨oc1, od1, .func (PySem.W.fnOf "rises" "rises" (defArgs s1) (defBody s1) (defScope s1) .none kV1 dc1 pm1 an1 cd1 ct1), sl1⟩) (c1 : PySem.W.codeIn K cd1 "rises" = true) (k1 : PySem.W.keepIn K (.ref e1) = true)
    (a2 : PySem.W.nsIn K mainGlobals "is_bar" = some (some (.ref e2))) (l2 : K.lookup e2 = some ⟨oc2, od2, .func (PySem.W.fnOf "is_bar" "is_bar" (defArgs s2) (defBody s2) (defScope s2) .none kV2 dc2 pm2 an2 cd2 ct2), sl2⟩) (c2 : PySem.W.codeIn K cd2 "is_bar" = true) (k2 : PySem.W.keepIn K (.ref e2) = true)
    (a3 : PySem.W.nsIn K mainGlobals "is_bars" = some (some (.ref e3))) (l3 : K.lookup e3 = some ⟨oc3, od3, .func (PySem.W.fnOf "is_bars" "is_bars" (defArgs s3) (defBody s3) (defScope s3) .none kV3 dc3 pm3 an3 cd3 ct3), sl3⟩) (c3 : PySem.W.codeIn K cd3 "is_bars" = true) (k3 : PySem.W.keepIn K (.ref e3) = true)
    (a4 : PySem.W.nsIn K mainGlobals "first_barred" = some (some (.ref e4))) (l4 : K.lookup e4 = some ⟨oc4, od4, .func (PySem.W.fnOf "first_barred" "first_barred" (defArgs s4) (defBody s4) (defScope s4) .none kV4 dc4 pm4 an4 cd4 ct4), sl4⟩) (c4 : PySem.W.codeIn K cd4 "first_barred" = true) (k4 : PySem.W.keepIn K (.ref e4) = true)
    (a5 : PySem.W.nsIn K mainGlobals "is_let" = some (some (.ref e5))) (l5 : K.lookup e5 = some ⟨oc5, od5, .func (PySem.W.fnOf "is_let" "is_let" (defArgs s5) (defBody s5) (defScope s5) .none kV5 dc5 pm5 an5 cd5 ct5), sl5⟩) (c5 : PySem.W.codeIn K cd5 "is_let" = true) (k5 : PySem.W.keepIn K (.ref e5) = true)
    (a6 : PySem.W.nsIn K mainGlobals "_law_box" = some (some (.ref e6))) (l6 : K.lookup e6 = some ⟨oc6, od6, .func (PySem.W.fnOf "_law_box" "_law_box" (defArgs s6) (defBody s6) (defScope s6) .none kV6 dc6 pm6 an6 cd6 ct6), sl6⟩) (c6 : PySem.W.codeIn K cd6 "_law_box" = true) (k6 : PySem.W.keepIn K (.ref e6) = true)
    (a7 : PySem.W.nsIn K mainGlobals "_law_take" = some (some (.ref e7))) (l7 : K.lookup e7 = some ⟨oc7, od7, .func (PySem.W.fnOf "_law_take" "_law_take" (defArgs s7) (defBody s7) (defScope s7) .none kV7 dc7 pm7 an7 cd7 ct7), sl7⟩) (c7 : PySem.W.codeIn K cd7 "_law_take" = true) (k7 : PySem.W.keepIn K (.ref e7) = true)
    (a8 : PySem.W.nsIn K mainGlobals "_law_same" = some (some (.ref e8))) (l8 : K.lookup e8 = some ⟨oc8, od8, .func (PySem.W.fnOf "_law_same" "_law_same" (defArgs s8) (defBody s8) (defScope s8) .none kV8 dc8 pm8 an8 cd8 ct8), sl8⟩) (c8 : PySem.W.codeIn K cd8 "_law_same" = true) (k8 : PySem.W.keepIn K (.ref e8) = true)
    (a9 : PySem.W.nsIn K mainGlobals "_law_lists" = some (some (.ref e9))) (l9 : K.lookup e9 = some ⟨oc9, od9, .func (PySem.W.fnOf "_law_lists" "_law_lists" (defArgs s9) (defBody s9) (defScope s9) .none kV9 dc9 pm9 an9 cd9 ct9), sl9⟩) (c9 : PySem.W.codeIn K cd9 "_law_lists" = true) (k9 : PySem.W.keepIn K (.ref e9) = true)
    (a10 : PySem.W.nsIn K mainGlobals "_law_of" = some (some (.ref e10))) (l10 : K.lookup e10 = some ⟨oc10, od10, .func (PySem.W.fnOf "_law_of" "_law_of" (defArgs s10) (defBody s10) (defScope s10) .none kV10 dc10 pm10 an10 cd10 ct10), sl10⟩) (c10 : PySem.W.codeIn K cd10 "_law_of" = true) (k10 : PySem.W.keepIn K (.ref e10) = true)
    (a11 : PySem.W.nsIn K mainGlobals "_law_ties" = some (some (.ref e11))) (l11 : K.lookup e11 = some ⟨oc11, od11, .func (PySem.W.fnOf "_law_ties" "_law_ties" (defArgs s11) (defBody s11) (defScope s11) .none kV11 dc11 pm11 an11 cd11 ct11), sl11⟩) (c11 : PySem.W.codeIn K cd11 "_law_ties" = true) (k11 : PySem.W.keepIn K (.ref e11) = true)
    (a12 : PySem.W.nsIn K mainGlobals "_law_locks" = some (some (.ref e12))) (l12 : K.lookup e12 = some ⟨oc12, od12, .func (PySem.W.fnOf "_law_locks" "_law_locks" (defArgs s12) (defBody s12) (defScope s12) .none kV12 dc12 pm12 an12 cd12 ct12), sl12⟩) (c12 : PySem.W.codeIn K cd12 "_law_locks" = true) (k12 : PySem.W.keepIn K (.ref e12) = true)
    (a13 : PySem.W.nsIn K mainGlobals "_law_all" = some (some (.ref e13))) (l13 : K.lookup e13 = some ⟨oc13, od13, .func (PySem.W.fnOf "_law_all" "_law_all" (defArgs s13) (defBody s13) (defScope s13) .none kV13 dc13 pm13 an13 cd13 ct13), sl13⟩) (c13 : PySem.W.codeIn K cd13 "_law_all" = true) (k13 : PySem.W.keepIn K (.ref e13) = true)
    (a14 : PySem.W.nsIn K mainGlobals "_law_least" = some (some (.ref e14))) (l14 : K.lookup e14 = some ⟨oc14, od14, .func (PySem.W.fnOf "_law_least" "_law_least" (defArgs s14) (defBody s14) (defScope s14) .none kV14 dc14 pm14 an14 cd14 ct14), sl14⟩) (c14 : PySem.W.codeIn K cd14 "_law_least" = true) (k14 : PySem.W.keepIn K (.ref e14) = true)
    (a15 : PySem.W.nsIn K mainGlobals "_law_is_number" = some (some (.ref e15))) (l15 : K.lookup e15 = some ⟨oc15, od15, .func (PySem.W.fnOf "_law_is_number" "_law_is_number" (defArgs s15) (defBody s15) (defScope s15) .none kV15 dc15 pm15 an15 cd15 ct15), sl15⟩) (c15 : PySem.W.codeIn K cd15 "_law_is_number" = true) (k15 : PySem.W.keepIn K (.ref e15) = true)
    (a16 : PySem.W.nsIn K mainGlobals "_law_are" = some (some (.ref e16))) (l16 : K.lookup e16 = some ⟨oc16, od16, .func (PySem.W.fnOf "_law_are" "_law_are" (defArgs s16) (defBody s16) (defScope s16) .none kV16 dc16 pm16 an16 cd16 ct16), sl16⟩) (c16 : PySem.W.codeIn K cd16 "_law_are" = true) (k16 : PySem.W.keepIn K (.ref e16) = true)
    (a17 : PySem.W.nsIn K mainGlobals "_law_bent" = some (some (.ref e17))) (l17 : K.lookup e17 = some ⟨oc17, od17, .func (PySem.W.fnOf "_law_bent" "_law_bent" (defArgs s17) (defBody s17) (defScope s17) .none kV17 dc17 pm17 an17 cd17 ct17), sl17⟩) (c17 : PySem.W.codeIn K cd17 "_law_bent" = true) (k17 : PySem.W.keepIn K (.ref e17) = true)
    (a18 : PySem.W.nsIn K mainGlobals "_law_by_hand_right" = some (some (.ref e18))) (l18 : K.lookup e18 = some ⟨oc18, od18, .func (PySem.W.fnOf "_law_by_hand_right" "_law_by_hand_right" (defArgs s18) (defBody s18) (defScope s18) .none kV18 dc18 pm18 an18 cd18 ct18), sl18⟩) (c18 : PySem.W.codeIn K cd18 "_law_by_hand_right" = true) (k18 : PySem.W.keepIn K (.ref e18) = true)
    (a19 : PySem.W.nsIn K mainGlobals "_law_right" = some (some (.ref e19))) (l19 : K.lookup e19 = some ⟨oc19, od19, .func (PySem.W.fnOf "_law_right" "_law_right" (defArgs s19) (defBody s19) (defScope s19) .none kV19 dc19 pm19 an19 cd19 ct19), sl19⟩) (c19 : PySem.W.codeIn K cd19 "_law_right" = true) (k19 : PySem.W.keepIn K (.ref e19) = true)
    (ac : PySem.W.nsIn K mainGlobals "_law_cells" = some (some (.ref ec))) (lc : K.lookup ec = some ⟨occ, odc, .func (PySem.W.fnOf "_law_cells" "_law_cells" (defArgs sCells) (defBody sCells) (defScope sCells) .none kVc dcc pmc anc cdc ctc), slc⟩) (cc : PySem.W.codeIn K cdc "_law_cells" = true) (kc : PySem.W.keepIn K (.ref ec) = true)
    (al : PySem.W.nsIn K mainGlobals "law" = some (some (.ref el))) (ll : K.lookup el = some ⟨ocl, odl, .func (PySem.W.fnOf "law" "law" (defArgs sLaw) (defBody sLaw) (defScope sLaw) .none kVl dcl pml anl cdl ctl), sll⟩) (cl : PySem.W.codeIn K cdl "law" = true) (kl : PySem.W.keepIn K (.ref el) = true)
    {tk0 : Tok} (g0 : PySem.W.nsIn K mainGlobals "PAIR" = some (some (.int 2 tk0)))
    (z0 : PySem.W.nsIn K mainGlobals "abs" = some none)
    (z1 : PySem.W.nsIn K mainGlobals "all" = some none)
    (z2 : PySem.W.nsIn K mainGlobals "bool" = some none)
    (z3 : PySem.W.nsIn K mainGlobals "enumerate" = some none)
    (z4 : PySem.W.nsIn K mainGlobals "int" = some none)
    (z5 : PySem.W.nsIn K mainGlobals "isinstance" = some none)
    (z6 : PySem.W.nsIn K mainGlobals "len" = some none)
    (z7 : PySem.W.nsIn K mainGlobals "list" = some none)
    (z8 : PySem.W.nsIn K mainGlobals "max" = some none)
    (z9 : PySem.W.nsIn K mainGlobals "range" = some none)
    (z10 : PySem.W.nsIn K mainGlobals "str" = some none)
    (z11 : PySem.W.nsIn K mainGlobals "tuple" = some none)
    (z12 : PySem.W.nsIn K mainGlobals "zip" = some none)
    : ∃ fd : FuncData, (∀ (s : Shared) (v : Value), BindsTo s fd ⟨[v], []⟩ [("_law_script", v)]) ∧ ∀ base : Heap, K.In base → base.Ns mainGlobals mg → FnOk l.prog w K mg base (L2.CX l.prog w) 22 fa fd ["_law_script"] (spLaw K) := by
  have e := hfa.symm.trans (PySem.W.mg_of X G al)
  cases e
  have F0 := fun_mk (st := s0) l0 c0 k0
  have F1 := fun_mk (st := s1) l1 c1 k1
  have F2 := fun_mk (st := s2) l2 c2 k2
  have F3 := fun_mk (st := s3) l3 c3 k3
  have F4 := fun_mk (st := s4) l4 c4 k4
  have F5 := fun_mk (st := s5) l5 c5 k5
  have F6 := fun_mk (st := s6) l6 c6 k6
  have F7 := fun_mk (st := s7) l7 c7 k7
  have F8 := fun_mk (st := s8) l8 c8 k8
  have F9 := fun_mk (st := s9) l9 c9 k9
  have F10 := fun_mk (st := s10) l10 c10 k10
  have F11 := fun_mk (st := s11) l11 c11 k11
  have F12 := fun_mk (st := s12) l12 c12 k12
  have F13 := fun_mk (st := s13) l13 c13 k13
  have F14 := fun_mk (st := s14) l14 c14 k14
  have F15 := fun_mk (st := s15) l15 c15 k15
  have F16 := fun_mk (st := s16) l16 c16 k16
  have F17 := fun_mk (st := s17) l17 c17 k17
  have F18 := fun_mk (st := s18) l18 c18 k18
  have F19 := fun_mk (st := s19) l19 c19 k19
  have Fc := fun_mk (st := sCells) lc cc kc
  have Fl := fun_mk (st := sLaw) ll cl kl
  have B0 := F0.binds (ps := ["thing"]) fun _ _ _ _ _ _ us hl => match us, hl with | [_], _ => rfl
  have B1 := F1.binds (ps := ["row"]) fun _ _ _ _ _ _ us hl => match us, hl with | [_], _ => rfl
  have B2 := F2.binds (ps := ["debts", "thing"]) fun _ _ _ _ _ _ us hl => match us, hl with | [_, _], _ => rfl
  have B3 := F3.binds (ps := ["debts", "thing"]) fun _ _ _ _ _ _ us hl => match us, hl with | [_, _], _ => rfl
  have B4 := F4.binds (ps := ["debts", "bars", "book"]) fun _ _ _ _ _ _ us hl => match us, hl with | [_, _, _], _ => rfl
  have B5 := F5.binds (ps := ["debts", "bars", "book"]) fun _ _ _ _ _ _ us hl => match us, hl with | [_, _, _], _ => rfl
  have B6 := F6.binds (ps := ["_law_script", "_law_k"]) fun _ _ _ _ _ _ us hl => match us, hl with | [_, _], _ => rfl
  have B7 := F7.binds (ps := ["_law_box_here", "_law_below_so"]) fun _ _ _ _ _ _ us hl => match us, hl with | [_, _], _ => rfl
  have B8 := F8.binds (ps := ["_law_got", "_law_due"]) fun _ _ _ _ _ _ us hl => match us, hl with | [_, _], _ => rfl
  have B9 := F9.binds (ps := ["_law_matter_so"]) fun _ _ _ _ _ _ us hl => match us, hl with | [_], _ => rfl
  have B10 := F10.binds (ps := ["_law_box_here", "_law_pool_so"]) fun _ _ _ _ _ _ us hl => match us, hl with | [_, _], _ => rfl
  have B11 := F11.binds (ps := ["_law_box_here", "_law_most_so"]) fun _ _ _ _ _ _ us hl => match us, hl with | [_, _], _ => rfl
  have B12 := F12.binds (ps := ["_law_box_here", "_law_many_so"]) fun _ _ _ _ _ _ us hl => match us, hl with | [_, _], _ => rfl
  have B13 := F13.binds (ps := ["_law_many_so"]) fun _ _ _ _ _ _ us hl => match us, hl with | [_], _ => rfl
  have B14 := F14.binds (ps := ["_law_locks_so", "_law_shelf_so"]) fun _ _ _ _ _ _ us hl => match us, hl with | [_, _], _ => rfl
  have B15 := F15.binds (ps := ["_law_matter_so"]) fun _ _ _ _ _ _ us hl => match us, hl with | [_], _ => rfl
  have B16 := F16.binds (ps := ["_law_many_so", "_law_matter_so"]) fun _ _ _ _ _ _ us hl => match us, hl with | [_, _], _ => rfl
  have B17 := F17.binds (ps := ["_law_box_here", "_law_locks_so", "_law_many_so"]) fun _ _ _ _ _ _ us hl => match us, hl with | [_, _, _], _ => rfl
  have B18 := F18.binds (ps := []) fun _ _ _ _ _ _ us hl => match us, hl with | [], _ => rfl
  have B19 := F19.binds (ps := ["_law_box_here"]) fun _ _ _ _ _ _ us hl => match us, hl with | [_], _ => rfl
  have Bc := Fc.binds (ps := ["_law_script", "_law_top_so"]) fun _ _ _ _ _ _ us hl => match us, hl with | [_, _], _ => rfl
  have T : AtTop K mg T (fun i => [e0, e1, e2, e3, e4, e5, e6, e7, e8, e9, e10, e11, e12, e13, e14, e15, e16, e17, e18, e19].getD i 0) (fun i => [PySem.W.fnOf "is_number" "is_number" (defArgs s0) (defBody s0) (defScope s0) .none kV0 dc0 pm0 an0 cd0 ct0, PySem.W.fnOf "rises" "rises" (defArgs s1) (defBody s1) (defScope s1) .none kV1 dc1 pm1 an1 cd1 ct1, PySem.W.fnOf "is_bar" "is_bar" (defArgs s2) (defBody s2) (defScope s2) .none kV2 dc2 pm2 an2 cd2 ct2, PySem.W.fnOf "is_bars" "is_bars" (defArgs s3) (defBody s3) (defScope s3) .none kV3 dc3 pm3 an3 cd3 ct3, PySem.W.fnOf "first_barred" "first_barred" (defArgs s4) (defBody s4) (defScope s4) .none kV4 dc4 pm4 an4 cd4 ct4, PySem.W.fnOf "is_let" "is_let" (defArgs s5) (defBody s5) (defScope s5) .none kV5 dc5 pm5 an5 cd5 ct5, PySem.W.fnOf "_law_box" "_law_box" (defArgs s6) (defBody s6) (defScope s6) .none kV6 dc6 pm6 an6 cd6 ct6, PySem.W.fnOf "_law_take" "_law_take" (defArgs s7) (defBody s7) (defScope s7) .none kV7 dc7 pm7 an7 cd7 ct7, PySem.W.fnOf "_law_same" "_law_same" (defArgs s8) (defBody s8) (defScope s8) .none kV8 dc8 pm8 an8 cd8 ct8, PySem.W.fnOf "_law_lists" "_law_lists" (defArgs s9) (defBody s9) (defScope s9) .none kV9 dc9 pm9 an9 cd9 ct9, PySem.W.fnOf "_law_of" "_law_of" (defArgs s10) (defBody s10) (defScope s10) .none kV10 dc10 pm10 an10 cd10 ct10, PySem.W.fnOf "_law_ties" "_law_ties" (defArgs s11) (defBody s11) (defScope s11) .none kV11 dc11 pm11 an11 cd11 ct11, PySem.W.fnOf "_law_locks" "_law_locks" (defArgs s12) (defBody s12) (defScope s12) .none kV12 dc12 pm12 an12 cd12 ct12, PySem.W.fnOf "_law_all" "_law_all" (defArgs s13) (defBody s13) (defScope s13) .none kV13 dc13 pm13 an13 cd13 ct13, PySem.W.fnOf "_law_least" "_law_least" (defArgs s14) (defBody s14) (defScope s14) .none kV14 dc14 pm14 an14 cd14 ct14, PySem.W.fnOf "_law_is_number" "_law_is_number" (defArgs s15) (defBody s15) (defScope s15) .none kV15 dc15 pm15 an15 cd15 ct15, PySem.W.fnOf "_law_are" "_law_are" (defArgs s16) (defBody s16) (defScope s16) .none kV16 dc16 pm16 an16 cd16 ct16, PySem.W.fnOf "_law_bent" "_law_bent" (defArgs s17) (defBody s17) (defScope s17) .none kV17 dc17 pm17 an17 cd17 ct17, PySem.W.fnOf "_law_by_hand_right" "_law_by_hand_right" (defArgs s18) (defBody s18) (defScope s18) .none kV18 dc18 pm18 an18 cd18 ct18, PySem.W.fnOf "_law_right" "_law_right" (defArgs s19) (defBody s19) (defScope s19) .none kV19 dc19 pm19 an19 cd19 ct19].getD i (PySem.W.fnOf "law" "law" (defArgs sLaw) (defBody sLaw) (defScope sLaw) .none kVl dcl pml anl cdl ctl)) := by
    refine ⟨fun f d hd => ?_, fun x hx => ?_, fun q hq => ?_, fun kw hk d hd => ?_⟩
    · match f, hd with
      | 0, hd => cases hd; exact ⟨F0, B0, PySem.W.mg_of X G a0⟩
      | 1, hd => cases hd; exact ⟨F1, B1, PySem.W.mg_of X G a1⟩
      | 2, hd => cases hd; exact ⟨F2, B2, PySem.W.mg_of X G a2⟩
      | 3, hd => cases hd; exact ⟨F3, B3, PySem.W.mg_of X G a3⟩
      | 4, hd => cases hd; exact ⟨F4, B4, PySem.W.mg_of X G a4⟩
      | 5, hd => cases hd; exact ⟨F5, B5, PySem.W.mg_of X G a5⟩
      | 6, hd => cases hd; exact ⟨F6, B6, PySem.W.mg_of X G a6⟩
      | 7, hd => cases hd; exact ⟨F7, B7, PySem.W.mg_of X G a7⟩
      | 8, hd => cases hd; exact ⟨F8, B8, PySem.W.mg_of X G a8⟩
      | 9, hd => cases hd; exact ⟨F9, B9, PySem.W.mg_of X G a9⟩
      | 10, hd => cases hd; exact ⟨F10, B10, PySem.W.mg_of X G a10⟩
      | 11, hd => cases hd; exact ⟨F11, B11, PySem.W.mg_of X G a11⟩
      | 12, hd => cases hd; exact ⟨F12, B12, PySem.W.mg_of X G a12⟩
      | 13, hd => cases hd; exact ⟨F13, B13, PySem.W.mg_of X G a13⟩
      | 14, hd => cases hd; exact ⟨F14, B14, PySem.W.mg_of X G a14⟩
      | 15, hd => cases hd; exact ⟨F15, B15, PySem.W.mg_of X G a15⟩
      | 16, hd => cases hd; exact ⟨F16, B16, PySem.W.mg_of X G a16⟩
      | 17, hd => cases hd; exact ⟨F17, B17, PySem.W.mg_of X G a17⟩
      | 18, hd => cases hd; exact ⟨F18, B18, PySem.W.mg_of X G a18⟩
      | 19, hd => cases hd; exact ⟨F19, B19, PySem.W.mg_of X G a19⟩
    · simp only [T, List.mem_cons, List.not_mem_nil, or_false] at hx
      rcases hx with rfl | rfl | rfl | rfl | rfl | rfl | rfl | rfl | rfl | rfl | rfl | rfl | rfl
      · exact PySem.W.mg_none_of X G z0
      · exact PySem.W.mg_none_of X G z1
      · exact PySem.W.mg_none_of X G z2
      · exact PySem.W.mg_none_of X G z3
      · exact PySem.W.mg_none_of X G z4
      · exact PySem.W.mg_none_of X G z5
      · exact PySem.W.mg_none_of X G z6
      · exact PySem.W.mg_none_of X G z7
      · exact PySem.W.mg_none_of X G z8
      · exact PySem.W.mg_none_of X G z9
      · exact PySem.W.mg_none_of X G z10
      · exact PySem.W.mg_none_of X G z11
      · exact PySem.W.mg_none_of X G z12
    · simp only [T, List.mem_cons, List.not_mem_nil, or_false] at hq
      rcases hq with rfl
      · exact ⟨.int 2, _, PySem.W.mg_of X G g0, ⟨tk0, rfl⟩, .int _⟩
    · simp only [T, List.mem_cons, List.not_mem_nil, or_false] at hk
      rcases hk with rfl | rfl | rfl
      · cases hd; exact ⟨rfl, fun us ws h1 h2 => match us, ws, h1, h2 with | [], [_, _], _, _ => rfl⟩
      · cases hd; exact ⟨rfl, fun us ws h1 h2 => match us, ws, h1, h2 with | [], [_, _, _], _, _ => rfl⟩
      · cases hd; exact ⟨rfl, fun us ws h1 h2 => match us, ws, h1, h2 with | [], [_, _, _], _, _ => rfl⟩
  refine ⟨PySem.W.fnOf "law" "law" (defArgs sLaw) (defBody sLaw) (defScope sLaw) .none kVl dcl pml anl cdl ctl, fun s v => .of_eq rfl, fun base _ _ => ?_⟩
  have Cc := cells_ok (Pr := l.prog) (w := w) (base := base) (mg := mg) (s := "_law_script") (t := "_law_top_so") (c := "_law_cells_so") (k := "_law_k") (e := "_law_cell") (a := "_law_at_so") Fc (scB_of (by decide +kernel)) rfl (by decide +kernel) (by decide +kernel) (by decide +kernel) (by decide +kernel) (by decide +kernel) (by decide +kernel) (by decide +kernel) (by decide +kernel) (by decide +kernel) (PySem.W.mg_none_of X G z7) (PySem.W.mg_none_of X G z3) (PySem.W.mg_none_of X G z4) (by decide +kernel)
  exact law_ok (k := 20) ⟨fun _ => 0, fun _ => ""⟩ oLaw oAll T Fl Cc (PySem.W.mg_of X G ac) kc Bc hand_true.choose_spec draws_true
theorem walk {l : PySem.W.OpenLaw} {q : Program} {loose : List Str} {XP : (Str → Option Value) → Heap → Prop} {YP : World → Heap → Prop} {d : DefRec} {K : Params → PySem.W.Frag} (hn : l.most = some 63) (hdf : d.params.defaults = []) (hY : ∀ (w : World) (h : Heap), YP w h → (K w.params).In h)
    (F : ∀ (w : World) (mg : Str → Option Value) (fa : Addr) (h : Heap), (K w.params).In h → h.Ns mainGlobals mg → mg d.name = some (.ref fa) → ∃ fd : FuncData, (∀ (s : Shared) (u : Value), BindsTo s fd ⟨[u], []⟩ [("_law_script", u)]) ∧ ∀ base : Heap, (K w.params).In base → base.Ns mainGlobals mg → FnOk l.prog w (K w.params) mg base (L2.CX l.prog w) 22 fa fd ["_law_script"] (spLaw (K w.params))) :
    PySem.W.WalkO q loose XP YP l.row.toRowW d [] (fun f vs => PySem.call f vs) :=
  L2.walk_of (n := 63) (k := 22) (x := "_law_script") (CX := fun w => L2.CX l.prog w) (sp := fun w => spLaw (K w.params)) hn (by decide) hdf ⟨rfl, by decide, by decide⟩ hY F (fun _ _ a ns hl _ hS => ⟨a, ns, rfl, hS, hl, fun _ => rfl⟩) fun w H s e s' ⟨_, _, _, _, _, _, _, _, _, _, _, _, z⟩ => z
end Lw
open PySem PySem.W PyProof.Rows
set_option maxRecDepth 100000 in
set_option maxHeartbeats 0 in
theorem PySem.Challenge.cw_nettingpots_k58_pairs_that_may_not_lie_t_holds : PySem.Challenge.rw_nettingpots_k58_pairs_that_may_not_lie_t.Holds := by
  w_on; o_law; k_head; (case hw => w_witness2)
  k_fill
  refine Lw.walk (l := PySem.Challenge.rw_nettingpots_k58_pairs_that_may_not_lie_t) rfl rfl (fun w h Y => PySem.W.kIn_of Y) ?F
  case F =>
    intro w mg fa h KX G hmg
    refine' Lw.all_mk KX G hmg ?a0 ?l0 ?c0 ?k0 ?a1 ?l1 ?c1 ?k1 ?a2 ?l2 ?c2 ?k2 ?a3 ?l3 ?c3 ?k3 ?a4 ?l4 ?c4 ?k4 ?a5 ?l5 ?c5 ?k5 ?a6 ?l6 ?c6 ?k6 ?a7 ?l7 ?c7 ?k7 ?a8 ?l8 ?c8 ?k8 ?a9 ?l9 ?c9 ?k9 ?a10 ?l10 ?c10 ?k10 ?a11 ?l11 ?c11 ?k11 ?a12 ?l12 ?c12 ?k12 ?a13 ?l13 ?c13 ?k13 ?a14 ?l14 ?c14 ?k14 ?a15 ?l15 ?c15 ?k15 ?a16 ?l16 ?c16 ?k16 ?a17 ?l17 ?c17 ?k17 ?a18 ?l18 ?c18 ?k18 ?a19 ?l19 ?c19 ?k19 ?ac ?lc ?cc ?kc ?al ?ll ?cl ?kl ?con0 ?z0 ?z1 ?z2 ?z3 ?z4 ?z5 ?z6 ?z7 ?z8 ?z9 ?z10 ?z11 ?z12
    (case a0 => k_is); (case l0 => k_is); (case c0 => k_is); (case k0 => k_is)
    (case a1 => k_is); (case l1 => k_is); (case c1 => k_is); (case k1 => k_is)
    (case a2 => k_is); (case l2 => k_is); (case c2 => k_is); (case k2 => k_is)
    (case a3 => k_is); (case l3 => k_is); (case c3 => k_is); (case k3 => k_is)
    (case a4 => k_is); (case l4 => k_is); (case c4 => k_is); (case k4 => k_is)
    (case a5 => k_is); (case l5 => k_is); (case c5 => k_is); (case k5 => k_is)
    (case a6 => k_is); (case l6 => k_is); (case c6 => k_is); (case k6 => k_is)
    (case a7 => k_is); (case l7 => k_is); (case c7 => k_is); (case k7 => k_is)
    (case a8 => k_is); (case l8 => k_is); (case c8 => k_is); (case k8 => k_is)
    (case a9 => k_is); (case l9 => k_is); (case c9 => k_is); (case k9 => k_is)
    (case a10 => k_is); (case l10 => k_is); (case c10 => k_is); (case k10 => k_is)
    (case a11 => k_is); (case l11 => k_is); (case c11 => k_is); (case k11 => k_is)
    (case a12 => k_is); (case l12 => k_is); (case c12 => k_is); (case k12 => k_is)
    (case a13 => k_is); (case l13 => k_is); (case c13 => k_is); (case k13 => k_is)
    (case a14 => k_is); (case l14 => k_is); (case c14 => k_is); (case k14 => k_is)
    (case a15 => k_is); (case l15 => k_is); (case c15 => k_is); (case k15 => k_is)
    (case a16 => k_is); (case l16 => k_is); (case c16 => k_is); (case k16 => k_is)
    (case a17 => k_is); (case l17 => k_is); (case c17 => k_is); (case k17 => k_is)
    (case a18 => k_is); (case l18 => k_is); (case c18 => k_is); (case k18 => k_is)
    (case a19 => k_is); (case l19 => k_is); (case c19 => k_is); (case k19 => k_is)
    (case ac => k_is); (case lc => k_is); (case cc => k_is); (case kc => k_is)
    (case al => k_is); (case ll => k_is); (case cl => k_is); (case kl => k_is)
    (case con0 => k_is); (case z0 => k_is); (case z1 => k_is); (case z2 => k_is)
    (case z3 => k_is); (case z4 => k_is); (case z5 => k_is); (case z6 => k_is)
    (case z7 => k_is); (case z8 => k_is); (case z9 => k_is); (case z10 => k_is)
    (case z11 => k_is); (case z12 => k_is)
