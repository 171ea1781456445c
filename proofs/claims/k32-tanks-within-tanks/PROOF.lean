import PyProof.Rows.All
import Wide.All
import OpenK.AllK
import Wide.FinOn
import PySem.Challenge.RW_spillmirror_k32_whole_tanks_within_tanks
import HandS.ForMost
import HandS.Wide
import HandS.WideMore
import HandS.Walk
import HandS.SortInts
import HandS.SortKw
import HandS.Style
import HandS.Deep
import HandS.IsInst
set_option Elab.async false
set_option linter.all false
set_option maxRecDepth 100000
set_option maxHeartbeats 2000000
namespace Sm
open PySem PySem.Spec PyProof.Rows L2

abbrev D := PyData
/-- a slot: nothing, a value that may be shared, a list that this def alone holds -/
inductive Sl where
  | emp | sh (d : D) | ow (ds : List D) | ro (ns : List Int)
abbrev DS := List Sl

inductive BO where | add | sub | mul | fdiv | mod | pow
inductive CO where | eq | ne | lt | le | gt | ge | inn | nin
inductive FB where | len | abs | sum | max | min | sorted | list | tuple | int | all | any | isInt | isBool | isList | isTuple | isStr
/-- a target -/
inductive T where | nm (i : Nat) | tp (l : T) | nil | cons (h t : T)
/-- an expression; arguments as anil, acons -/
inductive C where
  | var (i : Nat) | lit (d : D) | glob (x : Str) (d : D)
  | bin (o : BO) (a b : C) | neg (a : C)
  | cmp (o : CO) (a b : C) | ch2 (o p : CO) (a b c : C) | ch3 (o p q : CO) (a b c d : C)
  | isN (a : C) | notN (a : C)
  | and (a b : C) | or (a b : C) | not (a : C) | ife (t a b : C)
  | tup (l : C) | lst (l : C)
  | sub (a i : C) | subO (j : Nat) (i : C) | slice (a lo hi : C) | slcO (j : Nat) (lo hi : C) | rev (a : C)
  | blt (f : FB) (l : C) | isi (f : FB) (a : C) | srev (a : C)
  | call (x : Str) (f : List D → Option D) (l : C)
  | cio (x : Str) (f : List D → List D → Option (D × List D)) (j : Nat) (l : C)
  | lenR (j : Nat) | subR (j : Nat) (i : C) | cro (x : Str) (f : List Int → List D → Option D) (j : Nat) (l : C)
  | callN (x : Str) (f : List D → Option (List D)) (l : C) | croN (x : Str) (f : List Int → List D → Option (List D)) (j : Nat) (l : C)
  | lc (elt : C) (own : List Nat) (t : T) (it : C) (cond : C)
  | rng (l : C) | enum (a : C) | zip (a b : C) | seq (a : C)
  | fx (a : C)
  | nop | anil | acons (a l : C)
inductive S where
  | nop | seq (a b : S)
  | asg (t : T) (c : C) | par2 (i j : Nat) (a b : C) | par3 (i j l : Nat) (a b c : C) | asgL (i : Nat) (c : C) | aug (i : Nat) (o : BO) (c : C)
  | setI (i : Nat) (ix c : C) | augI (i : Nat) (ix : C) (o : BO) (c : C)
  | app (i : Nat) (c : C) | ext (i : Nat) (c : C) | revS (i : Nat)
  | expr (c : C) | ret (c : C) | retN | retF (c : C) | retV (i : Nat)
  | ife (t : C) (a b : S) | forr (t : T) (it : C) (b : S) | whl (t : C) (b : S)
  | brk | cnt | fail

/-! ### operations on data -/
def bitsOk (i j : Int) : Bool := decide (i.natAbs.log2 + j.natAbs.log2 < 1000000)
def line : Nat := 16777216
def binD : BO → D → D → Option D
  | .add, .int i, .int j => some (.int (i + j))
  | .add, .list a, .list b => if a.length + b.length ≤ line then some (.list (a ++ b)) else none
  | .add, .str a, .str b => if a.length + b.length ≤ line then some (.str (a ++ b)) else none
  | .sub, .int i, .int j => some (.int (i - j))
  | .mul, .int i, .int j => if bitsOk i j then some (.int (i * j)) else none
  | .mul, .list a, .int k => if -(2 ^ 63) ≤ k ∧ k < 2 ^ 63 ∧ a.length * k.toNat ≤ line then some (.list (List.replicate k.toNat a).flatten) else none
  | .fdiv, .int i, .int j => if 0 < j ∧ j.natAbs.log2 < 9000 then some (.int (i / j)) else none
  | .mod, .int i, .int j => if 0 < j then some (.int (i % j)) else none
  | .pow, .int i, .int j => if 0 ≤ j ∧ (Builtin.Int.intBits i : Int) * j ≤ 2 ^ 27 then some (.int (i ^ j.toNat)) else none
  | _, _, _ => none
def flatD : D → Bool
  | .none => true | .bool _ => true | .int _ => true | .str _ => true | _ => false
def cmpD : CO → D → D → Option Bool
  | .eq, a, b => if SeqAt.shaped a && SeqAt.shaped b then some (PyData.eqv a b) else none
  | .ne, a, b => if SeqAt.shaped a && SeqAt.shaped b then some (!PyData.eqv a b) else none
  | .lt, .int i, .int j => some (decide (i < j))
  | .le, .int i, .int j => some (decide (i ≤ j))
  | .gt, .int i, .int j => some (decide (j < i))
  | .ge, .int i, .int j => some (decide (j ≤ i))
  | .inn, a, .list ds => if SeqAt.shaped a && SeqAt.shaped (.list ds) then some (ds.any fun z => PyData.eqv z a) else none
  | .nin, a, .list ds => if SeqAt.shaped a && SeqAt.shaped (.list ds) then some (!ds.any fun z => PyData.eqv z a) else none
  | .inn, a, .tuple ds => if flatD a && ds.all flatD then some (ds.any fun z => PyData.eqv z a) else none
  | .nin, a, .tuple ds => if flatD a && ds.all flatD then some (!ds.any fun z => PyData.eqv z a) else none
  | _, _, _ => none
def intsD : List D → Option (List Int)
  | [] => some []
  | .int i :: r => (intsD r).map (i :: ·)
  | _ => none
def boolsD : List D → Option (List Bool)
  | [] => some []
  | .bool i :: r => (boolsD r).map (i :: ·)
  | _ => none
def maxL : List Int → Int
  | [] => 0
  | [a] => a
  | a :: b :: r => max a (maxL (b :: r))
def minL : List Int → Int
  | [] => 0
  | [a] => a
  | a :: b :: r => min a (minL (b :: r))
def sortL (l : List Int) : List Int := l.mergeSort fun a b => decide (a ≤ b)
def sortR (l : List Int) : List Int := l.mergeSort fun a b => decide (b ≤ a)
def bltD : FB → List D → Option D
  | .len, [.list l] => some (.int l.length)
  | .len, [.tuple l] => some (.int l.length)
  | .len, [.str x] => if x.length ≤ line then some (.int x.length) else none
  | .abs, [.int i] => some (.int (if i < 0 then -i else i))
  | .sum, [.list l] => (intsD l).map fun ns => .int ns.sum
  | .max, [.int i, .int j] => some (.int (if j > i then j else i))
  | .min, [.int i, .int j] => some (.int (if j < i then j else i))
  | .max, [.list l] => match intsD l with | some (n :: r) => some (.int (maxL (n :: r))) | _ => none
  | .min, [.list l] => match intsD l with | some (n :: r) => some (.int (minL (n :: r))) | _ => none
  | .sorted, [.list l] => (intsD l).map fun ns => .list ((sortL ns).map .int)
  | .list, [.list l] => some (.list l)
  | .list, [.tuple l] => some (.list l)
  | .tuple, [.list l] => some (.tuple l)
  | .tuple, [.tuple l] => some (.tuple l)
  | .int, [.int i] => some (.int i)
  | .int, [.bool b] => some (.int (if b then 1 else 0))
  | .all, [.list l] => (boolsD l).map fun bs => .bool (bs.all id)
  | .any, [.list l] => (boolsD l).map fun bs => .bool (bs.any id)
  | .isInt, [d] => some (.bool (match d with | .int _ => true | .bool _ => true | _ => false))
  | .isBool, [d] => some (.bool (match d with | .bool _ => true | _ => false))
  | .isList, [d] => some (.bool (match d with | .list _ => true | _ => false))
  | .isTuple, [d] => some (.bool (match d with | .tuple _ => true | _ => false))
  | .isStr, [d] => some (.bool (match d with | .str _ => true | _ => false))
  | _, _ => none
def atD (l : List D) (i : Int) : Option D := atI l i
def cutD (l : List D) (lo hi : Option Int) : List D := (l.drop (HT.sIx l.length 0 lo)).take (HT.sIx l.length l.length hi - HT.sIx l.length 0 lo)
def subD : D → D → Option D
  | .list l, .int i => atD l i
  | .tuple l, .int i => atD l i
  | .str z, .int i => if z.length ≤ line then (atI z.cps.toList i).map fun c => .str ⟨#[c]⟩ else none
  | _, _ => none
/-- a slice of a list -/
def slcD : D → Option Int → Option Int → Option D
  | .list l, lo, hi => some (.list (cutD l lo hi))
  | _, _, _ => none
def revD : D → Option D
  | .list l => some (.list l.reverse)
  | _ => none
/-- lo, lo + c, .. -/
def rngD (lo c : Int) (n : Nat) : List D := (List.range n).map fun (i : Nat) => .int (lo + (i : Int) * c)
def enumFrom (i : Int) : List D → List D
  | [] => []
  | d :: r => .tuple [.int i, d] :: enumFrom (i + 1) r
def zipD : List D → List D → List D
  | a :: r, b :: s => .tuple [a, b] :: zipD r s
  | _, _ => []
def inR : Int → Bool
  | .ofNat n => decide (n < 2 ^ 62)
  | .negSucc n => decide (n < 2 ^ 62)

/-! ### the slots -/
/-- a target takes a value -/
def bindT : T → D → DS → Option DS
  | .nm i, d, st => if i < st.length then some (st.set i (.sh d)) else none
  | .tp l, .tuple ds, st => bindTs l ds st
  | _, _, _ => none
where bindTs : T → List D → DS → Option DS
  | .nil, [], st => some st
  | .cons h t, d :: ds, st => (bindT h d st).bind fun st1 => bindTs t ds st1
  | _, _, _ => none

def isNop : C → Bool | .nop => true | _ => false
/-- no list is changed in it -/
def pureC : C → Bool
  | .var _ => true | .lit _ => true | .glob _ _ => true
  | .bin _ a b => pureC a && pureC b | .neg a => pureC a
  | .cmp _ a b => pureC a && pureC b | .ch2 _ _ a b c => pureC a && pureC b && pureC c | .ch3 _ _ _ a b c d => pureC a && pureC b && pureC c && pureC d
  | .isN a => pureC a | .notN a => pureC a
  | .and a b => pureC a && pureC b | .or a b => pureC a && pureC b | .not a => pureC a | .ife t a b => pureC t && pureC a && pureC b
  | .tup l => pureC l | .lst l => pureC l
  | .sub a i => pureC a && pureC i | .subO _ i => pureC i | .slice a lo hi => pureC a && pureC lo && pureC hi | .slcO _ lo hi => pureC lo && pureC hi | .rev a => pureC a
  | .blt _ l => pureC l | .isi _ a => pureC a | .srev a => pureC a | .call _ _ l => pureC l | .cio _ _ _ _ => false
  | .lenR _ => true | .subR _ i => pureC i | .cro _ _ _ l => pureC l | .callN _ _ l => pureC l | .croN _ _ _ l => pureC l
  | .lc e _ _ it c => pureC e && pureC it && pureC c
  | .rng l => pureC l | .enum a => pureC a | .zip a b => pureC a && pureC b | .seq a => pureC a
  | .fx a => pureC a | .nop => true | .anil => true | .acons a l => pureC a && pureC l
/-- what makes a new list -/
def freshC : C → Bool
  | .lst _ => true | .slice _ _ _ => true | .slcO _ _ _ => true | .rev _ => true | .lc _ _ _ _ _ => true | .srev _ => true
  | .blt .list _ => true | .blt .sorted _ => true
  | .bin .add _ _ => true | .bin .mul _ _ => true
  | .callN _ _ _ => true | .croN _ _ _ _ => true
  | _ => false
def wipeS (st : DS) : List Nat → DS
  | [] => st
  | v :: vs => (wipeS st vs).set v .emp
def backS (st3 st1 : DS) : List Nat → DS
  | [] => st3
  | v :: vs => match st1[v]? with
    | some x => (backS st3 st1 vs).set v x
    | none => backS st3 st1 vs
def lcL (f : D → DS → Option (Option D × DS)) : List D → List D → DS → Option (List D × DS)
  | [], acc, st => some (acc, st)
  | d :: ds, acc, st => match f d st with
    | some (some v, st1) => if acc.length < line then lcL f ds (acc ++ [v]) st1 else none
    | some (none, st1) => lcL f ds acc st1
    | none => none
def getO (st : DS) (j : Nat) : Option (List D) := match st[j]? with
  | some (.ow ds) => some ds
  | some (.sh (.list ds)) => some ds
  | _ => none
def evP (n : Bool) (r : Option (D × DS)) (st : DS) : Option (Option Int × DS) :=
  if n then some (none, st) else r.bind fun q => match q.1 with
    | .int i => some (some i, q.2)
    | _ => none
def ownS (st : DS) (j : Nat) : Option Unit := match st[j]? with
  | some (.ow _) => some ()
  | _ => none
def roS (st : DS) (j : Nat) : Option (List Int) := match st[j]? with
  | some (.ro ns) => some ns
  | _ => none
mutual
def evC : C → DS → Option (D × DS)
  | .var i, st => match st[i]? with
    | some (.sh d) => some (d, st)
    | some (.ow ds) => some (.list ds, st.set i (.sh (.list ds)))
    | _ => none
  | .lit d, st => some (d, st)
  | .glob _ d, st => some (d, st)
  | .bin o a b, st => (evC a st).bind fun r => (evC b r.2).bind fun q => (binD o r.1 q.1).map fun d => (d, q.2)
  | .neg a, st => (evC a st).bind fun r => match r.1 with
    | .int i => some (.int (-i), r.2)
    | _ => none
  | .cmp o a b, st => (evC a st).bind fun r => (evC b r.2).bind fun q => (cmpD o r.1 q.1).map fun d => (.bool d, q.2)
  | .ch2 o p a b c, st => (evC a st).bind fun r => (evC b r.2).bind fun q => (cmpD o r.1 q.1).bind fun k =>
      if k then (evC c q.2).bind fun u => (cmpD p q.1 u.1).map fun d => (.bool d, u.2) else some (.bool false, q.2)
  | .ch3 o p o3 a b c e, st => (evC a st).bind fun r => (evC b r.2).bind fun q => (cmpD o r.1 q.1).bind fun k =>
      if k then (evC c q.2).bind fun u => (cmpD p q.1 u.1).bind fun k2 =>
        if k2 then (evC e u.2).bind fun w => (cmpD o3 u.1 w.1).map fun d => (.bool d, w.2) else some (.bool false, u.2)
      else some (.bool false, q.2)
  | .isN a, st => (evC a st).bind fun r => some (.bool (match r.1 with | .none => true | _ => false), r.2)
  | .notN a, st => (evC a st).bind fun r => some (.bool (match r.1 with | .none => false | _ => true), r.2)
  | .and a b, st => (evC a st).bind fun r => match r.1 with
    | .bool true => evC b r.2
    | .bool false => some (.bool false, r.2)
    | _ => none
  | .or a b, st => (evC a st).bind fun r => match r.1 with
    | .bool true => some (.bool true, r.2)
    | .bool false => evC b r.2
    | _ => none
  | .not a, st => (evC a st).bind fun r => match r.1 with
    | .bool b => some (.bool (!b), r.2)
    | _ => none
  | .ife t a b, st => (evC t st).bind fun r => match r.1 with
    | .bool true => evC a r.2
    | .bool false => evC b r.2
    | _ => none
  | .tup l, st => (evA l st).bind fun r => if r.1.length ≤ line then some (.tuple r.1, r.2) else none
  | .lst l, st => (evA l st).bind fun r => if r.1.length ≤ line then some (.list r.1, r.2) else none
  | .sub a i, st => (evC a st).bind fun r => (evC i r.2).bind fun q => (subD r.1 q.1).map fun d => (d, q.2)
  | .subO j i, st => (getO st j).bind fun _ => (evC i st).bind fun q => match q.1 with
    | .int k => (getO q.2 j).bind fun ds => (atD ds k).map fun d => (d, q.2)
    | _ => none
  | .slice a lo hi, st => (evC a st).bind fun r => (evP (isNop lo) (evC lo r.2)  r.2).bind fun p => (evP (isNop hi) (evC hi p.2) p.2).bind fun q => (slcD r.1 p.1 q.1).map fun d => (d, q.2)
  | .slcO j lo hi, st => (getO st j).bind fun _ => (evP (isNop lo) (evC lo st) st).bind fun p => (evP (isNop hi) (evC hi p.2) p.2).bind fun q => (getO q.2 j).map fun ds => (.list (cutD ds p.1 q.1), q.2)
  | .rev a, st => (evC a st).bind fun r => (revD r.1).map fun d => (d, r.2)
  | .blt f l, st => (evA l st).bind fun r => (bltD f r.1).map fun d => (d, r.2)
  | .isi f a, st => (evC a st).bind fun r => (bltD f [r.1]).map fun d => (d, r.2)
  | .srev a, st => (evC a st).bind fun r => match r.1 with
    | .list l => (intsD l).map fun ns => (.list ((sortR ns).map .int), r.2)
    | _ => none
  | .call _ f l, st => (evA l st).bind fun r => (f r.1).map fun d => (d, r.2)
  | .cio _ f j l, st => (ownS st j).bind fun _ => (evA l st).bind fun r => match r.2[j]? with
    | some (.ow ds) => (f ds r.1).map fun p => (p.1, r.2.set j (.ow p.2))
    | _ => none
  | .lenR j, st => (roS st j).map fun ns => (.int ns.length, st)
  | .subR j i, st => (roS st j).bind fun ns => (evC i st).bind fun q => match q.1 with
    | .int k => (atI ns k).map fun n => (.int n, q.2)
    | _ => none
  | .cro _ f j l, st => (roS st j).bind fun ns => (evA l st).bind fun r => (f ns r.1).map fun d => (d, r.2)
  | .callN _ f l, st => (evA l st).bind fun r => (f r.1).map fun ds => (.list ds, r.2)
  | .croN _ f j l, st => (roS st j).bind fun ns => (evA l st).bind fun r => (f ns r.1).map fun ds => (.list ds, r.2)
  | .lc elt own t it cond, st => (evI it st).bind fun r =>
      (lcL (fun d st2 => (bindT t d st2).bind fun st3 => (evC cond st3).bind fun q => match q.1 with
        | .bool true => (evC elt q.2).map fun u => (some u.1, wipeS u.2 own)
        | .bool false => some (none, wipeS q.2 own)
        | _ => none) r.1 [] (wipeS r.2 own)).map fun q => (.list q.1, backS q.2 r.2 own)
  | .fx a, st => (evC a st).map fun r => if flatD r.1 then (r.1, st) else r
  | .nop, st => some (.bool true, st)
  | .rng _, _ => none | .enum _, _ => none | .zip _ _, _ => none | .seq _, _ => none | .anil, _ => none | .acons _ _, _ => none
def evA : C → DS → Option (List D × DS)
  | .anil, st => some ([], st)
  | .acons a l, st => (evC a st).bind fun r => (evA l r.2).map fun q => (r.1 :: q.1, q.2)
  | _, _ => none
def evI : C → DS → Option (List D × DS)
  | .rng l, st => (evA l st).bind fun r => match r.1 with
    | [.int n] => if inR n then some (rngD 0 1 n.toNat, r.2) else none
    | [.int i, .int j] => if inR i && inR j then some (rngD i 1 (j - i).toNat, r.2) else none
    | [.int i, .int j, .int k] => if inR i && inR j && decide (k = -1) then some (rngD i (-1) (i - j).toNat, r.2) else none
    | _ => none
  | .enum a, st => (evC a st).bind fun r => match r.1 with
    | .list l => some (enumFrom 0 l, r.2)
    | _ => none
  | .zip a b, st => (evC a st).bind fun r => (evC b r.2).bind fun q => match r.1, q.1 with
    | .list l, .list m => some (zipD l m, q.2)
    | _, _ => none
  | .seq a, st => (evC a st).bind fun r => match r.1 with
    | .list l => some (l, r.2)
    | .tuple l => some (l, r.2)
    | _ => none
  | _, _ => none
end

inductive Out where
  | nx (st : DS) | ret (d : D) (st : DS) | bk (st : DS) | ct (st : DS) | retf (ds : List D) (st : DS)
def floop (f : D → DS → Option Out) : List D → DS → Option Out
  | [], st => some (.nx st)
  | d :: ds, st => match f d st with
    | some (.nx st1) => floop f ds st1
    | some (.ct st1) => floop f ds st1
    | some (.bk st1) => some (.nx st1)
    | r => r
def wloop (t : DS → Option (D × DS)) (b : DS → Option Out) : Nat → DS → Option Out
  | 0, _ => none
  | n + 1, st => match t st with
    | some (.bool true, st1) => match b st1 with
      | some (.nx st2) => wloop t b n st2
      | some (.ct st2) => wloop t b n st2
      | some (.bk st2) => some (.nx st2)
      | r => r
    | some (.bool false, st1) => some (.nx st1)
    | _ => none
def wfuel : Nat := 1000000
def evS : S → DS → Option Out
  | .nop, st => some (.nx st)
  | .seq a b, st => match evS a st with
    | some (.nx st1) => evS b st1
    | r => r
  | .asg t c, st => (evC c st).bind fun r => (bindT t r.1 r.2).map .nx
  | .par2 i j a b, st => (evC a st).bind fun r => (evC b r.2).bind fun q => if i < q.2.length && j < q.2.length then some (.nx ((q.2.set i (.sh r.1)).set j (.sh q.1))) else none
  | .par3 i j l a b c, st => (evC a st).bind fun r => (evC b r.2).bind fun q => (evC c q.2).bind fun u => if i < u.2.length && j < u.2.length && l < u.2.length then some (.nx (((u.2.set i (.sh r.1)).set j (.sh q.1)).set l (.sh u.1))) else none
  | .asgL i c, st => (evC c st).bind fun r => match r.1 with
    | .list ds => if freshC c && decide (i < r.2.length) then some (.nx (r.2.set i (.ow ds))) else none
    | _ => none
  | .aug i o c, st => match st[i]? with
    | some (.sh (.int k)) => (evC c st).bind fun r => match r.1, o with
      | .int j, .add => some (.nx (r.2.set i (.sh (.int (k + j)))))
      | .int j, .sub => some (.nx (r.2.set i (.sh (.int (k - j)))))
      | _, _ => none
    | _ => none
  | .setI i ix c, st => (evC c st).bind fun r => (ownS r.2 i).bind fun _ => (evC ix r.2).bind fun q => match q.1, q.2[i]? with
    | .int k, some (.ow ds) => (ixN ds.length k).map fun j => .nx (q.2.set i (.ow (ds.set j r.1)))
    | _, _ => none
  | .augI i ix o c, st => (ownS st i).bind fun _ => (evC ix st).bind fun q => match q.1, q.2[i]? with
    | .int k, some (.ow ds) => match atD ds k with
      | some (.int x) => (evC c q.2).bind fun r => match r.1, o, r.2[i]? with
        | .int y, .add, some (.ow es) => (ixN es.length k).map fun j => .nx (r.2.set i (.ow (es.set j (.int (x + y)))))
        | .int y, .sub, some (.ow es) => (ixN es.length k).map fun j => .nx (r.2.set i (.ow (es.set j (.int (x - y)))))
        | _, _, _ => none
      | _ => none
    | _, _ => none
  | .app i c, st => (ownS st i).bind fun _ => (evC c st).bind fun r => match r.2[i]? with
    | some (.ow ds) => if ds.length < line then some (.nx (r.2.set i (.ow (ds ++ [r.1])))) else none
    | _ => none
  | .ext i c, st => (ownS st i).bind fun _ => (evC c st).bind fun r => match r.1, r.2[i]? with
    | .list es, some (.ow ds) => if ds.length + es.length ≤ line then some (.nx (r.2.set i (.ow (ds ++ es)))) else none
    | _, _ => none
  | .revS i, st => match st[i]? with
    | some (.ow ds) => some (.nx (st.set i (.ow ds.reverse)))
    | _ => none
  | .expr c, st => (evC c st).map fun r => .nx r.2
  | .ret c, st => (evC c st).map fun r => .ret r.1 r.2
  | .retN, st => some (.ret .none st)
  | .retF c, st => (evC c st).bind fun r => match r.1 with
    | .list ds => if freshC c then some (.retf ds r.2) else none
    | _ => none
  | .retV i, st => match st[i]? with
    | some (.ow ds) => some (.retf ds st)
    | _ => none
  | .ife t a b, st => (evC t st).bind fun r => match r.1 with
    | .bool true => evS a r.2
    | .bool false => evS b r.2
    | _ => none
  | .forr t it b, st => (evI it st).bind fun r => floop (fun d st1 => (bindT t d st1).bind fun st2 => evS b st2) r.1 r.2
  | .whl t b, st => wloop (fun st1 => evC t st1) (fun st1 => evS b st1) wfuel st
  | .brk, st => some (.bk st)
  | .cnt, st => some (.ct st)
  | .fail, _ => none
/-- the slots that a text may set anew -/
def tSlots : T → List Nat
  | .nm i => [i] | .tp l => tSlots l | .nil => [] | .cons h t => tSlots h ++ tSlots t
def asgd : S → List Nat
  | .seq a b => asgd a ++ asgd b
  | .asg t _ => tSlots t | .par2 i j _ _ => [i, j] | .par3 i j l _ _ _ => [i, j, l] | .asgL i _ => [i] | .aug i _ _ => [i]
  | .ife _ a b => asgd a ++ asgd b | .forr t _ b => tSlots t ++ asgd b | .whl _ b => asgd b
  | _ => []
/-- a def of n slots, its arguments in the first ones -/
def startS (n : Nat) (ds : List Sl) : DS := ds ++ List.replicate (n - ds.length) .emp
def fnD (n m : Nat) (b : S) : List D → Option D := fun ds => if ds.length = m then match evS b (startS n (ds.map .sh)) with
  | some (.ret d _) => some d
  | some (.nx _) => some .none
  | some (.retf ds _) => some (.list ds)
  | _ => none
  else none
/-- .. that gives a new list -/
def fnN (n m : Nat) (b : S) : List D → Option (List D) := fun ds => if ds.length = m then match evS b (startS n (ds.map .sh)) with
  | some (.retf ds _) => some ds
  | _ => none
  else none
def fnRN (n m : Nat) (b : S) : List Int → List D → Option (List D) := fun ns ds => if ds.length + 1 = m then match evS b (startS n (.ro ns :: ds.map .sh)) with
  | some (.retf ds _) => some ds
  | _ => none
  else none
/-- the first argument the script -/
def fnRO (n m : Nat) (b : S) : List Int → List D → Option D := fun ns ds => if ds.length + 1 = m then match evS b (startS n (.ro ns :: ds.map .sh)) with
  | some (.ret d _) => some d
  | some (.nx _) => some .none
  | some (.retf ds _) => some (.list ds)
  | _ => none
  else none
/-- the first argument a list that it changes -/
def fnIO (n m : Nat) (b : S) : List D → List D → Option (D × List D) := fun d0 ds => if ds.length + 1 = m then match evS b (startS n (.ow d0 :: ds.map .sh)) with
  | some (.ret d st) => match (st[0]? : Option Sl) with
    | some (.ow d1) => some (d, d1)
    | _ => none
  | some (.nx st) => match (st[0]? : Option Sl) with
    | some (.ow d1) => some (.none, d1)
    | _ => none
  | _ => none
  else none
end Sm

set_option Elab.async false
set_option linter.all false
set_option maxRecDepth 100000
set_option maxHeartbeats 2000000
namespace Sm
open PySem PySem.Spec PyProof.Rows L2

/-! ### the text against the terms -/
def bltNames : List Str := ["len", "abs", "sum", "max", "min", "sorted", "list", "tuple", "int", "all", "any", "isinstance", "bool", "str", "range", "enumerate", "zip", "repr", "set"]
def visB (sc : Scope) (x : Str) : Bool := match sc.names.lookup x with | some .local => true | some .cell => true | some .free => true | _ => false
def locB (sc : Scope) (x : Str) : Bool := match sc.names.lookup x with | some .local => true | some .cell => true | _ => false
def glB (sc : Scope) (x : Str) : Bool := match sc.names.lookup x with | some .globalImplicit => true | _ => false
def okName (x : Str) : Bool := !decide (x = "__debug__") && !decide (x = "__classdict__")
def nmB (N : List Str) (sc : Scope) (i : Nat) : Expr → Bool
  | .Name x _ => decide (N[i]? = some x) && visB sc x && okName x
  | _ => false
def isStar : Expr → Bool | .Starred _ _ => true | _ => false
def isSlc : Expr → Bool | .Slice _ _ _ _ => true | _ => false
def isSet : Expr → Bool | .Set _ _ _ => true | _ => false
def isComp : Expr → Bool | .ListComp _ _ _ _ => true | .SetComp _ _ _ _ => true | .DictComp _ _ _ _ _ => true | _ => false
def isNoneE : Expr → Bool | .Constant .none _ _ => true | _ => false
def isTup : Expr → Bool | .Tuple _ _ _ => true | _ => false
def opB : BO → Operator → Bool
  | .add, .Add => true | .sub, .Sub => true | .mul, .Mult => true | .fdiv, .FloorDiv => true | .mod, .Mod => true | .pow, .Pow => true | _, _ => false
def coB : CO → CmpOp → Bool
  | .eq, .Eq => true | .ne, .NotEq => true | .lt, .Lt => true | .le, .LtE => true | .gt, .Gt => true | .ge, .GtE => true | .inn, .In => true | .nin, .NotIn => true | _, _ => false
def fbName : FB → Str
  | .len => "len" | .abs => "abs" | .sum => "sum" | .max => "max" | .min => "min" | .sorted => "sorted" | .list => "list" | .tuple => "tuple" | .int => "int" | .all => "all" | .any => "any"
  | _ => "isinstance"
def fbTy : FB → Option Str
  | .isInt => some "int" | .isBool => some "bool" | .isList => some "list" | .isTuple => some "tuple" | .isStr => some "str" | _ => none
def noOp : Option Expr → Bool | none => true | _ => false
mutual
/-- a target: a name that the block may store -/
def chkT (N : List Str) : T → Scope → List Nat → Expr → Bool
  | .nm i, sc, own, .Name x _ => decide (N[i]? = some x) && locB sc x && own.contains i
  | .tp l, sc, own, .Tuple es _ _ => chkTs N l sc own es
  | _, _, _, _ => false
def chkTs (N : List Str) : T → Scope → List Nat → List Expr → Bool
  | .nil, _, _, [] => true
  | .cons h t, sc, own, e :: es => !isStar e && chkT N h sc own e && chkTs N t sc own es
  | _, _, _, _ => false
end
mutual
def chkC (N : List Str) : C → Scope → Expr → Bool
  | .var i, sc, e => nmB N sc i e
  | .lit d, _, .Constant k _ _ => match d, k with
    | .int i, .int j => decide (i = j)
    | .bool i, .bool j => decide (i = j)
    | .none, .none => true
    | .str i, .str j => decide (i = j)
    | _, _ => false
  | .glob x _, sc, .Name y _ => decide (x = y) && glB sc y && okName y
  | .bin o a b, sc, .BinOp ea op eb _ => opB o op && chkC N a sc ea && chkC N b sc eb
  | .neg a, sc, .UnaryOp .USub ea _ => chkC N a sc ea
  | .not a, sc, .UnaryOp .Not ea _ => chkC N a sc ea
  | .cmp o a b, sc, .Compare ea [op] [eb] _ => coB o op && !isSet eb && chkC N a sc ea && chkC N b sc eb
  | .ch2 o p a b c, sc, .Compare ea [op, op2] [eb, ec] _ => coB o op && coB p op2 && !isSet eb && !isSet ec && chkC N a sc ea && chkC N b sc eb && chkC N c sc ec
  | .ch3 o p q a b c d, sc, .Compare ea [op, op2, op3] [eb, ec, ed] _ => coB o op && coB p op2 && coB q op3 && !isSet eb && !isSet ec && !isSet ed && chkC N a sc ea && chkC N b sc eb && chkC N c sc ec && chkC N d sc ed
  | .isN a, sc, .Compare ea [.Is] [eb] _ => isNoneE eb && chkC N a sc ea
  | .notN a, sc, .Compare ea [.IsNot] [eb] _ => isNoneE eb && chkC N a sc ea
  | .and a b, sc, .BoolOp .And (ea :: eb :: r) p => chkC N a sc ea && (match r with | [] => chkC N b sc eb | _ => chkC N b sc (.BoolOp .And (eb :: r) p))
  | .or a b, sc, .BoolOp .Or (ea :: eb :: r) p => chkC N a sc ea && (match r with | [] => chkC N b sc eb | _ => chkC N b sc (.BoolOp .Or (eb :: r) p))
  | .ife t a b, sc, .IfExp et ea eb _ => chkC N t sc et && chkC N a sc ea && chkC N b sc eb
  | .tup l, sc, .Tuple es _ _ => chkA N l sc es
  | .lst l, sc, .List es _ => chkA N l sc es
  | .sub a i, sc, .Subscript ea ei _ => !isSlc ei && chkC N a sc ea && chkC N i sc ei
  | .subO j i, sc, .Subscript ea ei _ => !isSlc ei && nmB N sc j ea && chkC N i sc ei
  | .slice a lo hi, sc, .Subscript ea (.Slice l h none _) _ => chkC N a sc ea && (match l with | none => isNop lo | some e => !isNop lo && chkC N lo sc e) && (match h with | none => isNop hi | some e => !isNop hi && chkC N hi sc e)
  | .slcO j lo hi, sc, .Subscript ea (.Slice l h none _) _ => nmB N sc j ea && (match l with | none => isNop lo | some e => !isNop lo && chkC N lo sc e) && (match h with | none => isNop hi | some e => !isNop hi && chkC N hi sc e)
  | .rev a, sc, .Subscript ea (.Slice none none (some (.UnaryOp .USub (.Constant (.int k) _ _) _)) _) _ => decide (k = 1) && chkC N a sc ea
  | .blt f l, sc, .Call (.Name x _) (e :: r) kw _ => (fbTy f).isNone && decide (x = fbName f) && glB sc x && kw.isEmpty && chkA N l sc (e :: r)
  | .isi f a, sc, .Call (.Name x _) [e, .Name y _] kw _ => decide (x = "isinstance") && glB sc x && kw.isEmpty && decide (some y = fbTy f) && glB sc y && !isStar e && chkC N a sc e
  | .srev a, sc, .Call (.Name x _) [e] [⟨some k, .Constant (.bool true) _ _, _⟩] _ => decide (x = "sorted") && decide (k = "reverse") && glB sc x && !isStar e && chkC N a sc e
  | .call x _ l, sc, .Call (.Name y _) (e :: es) kw _ => decide (x = y) && glB sc y && okName y && kw.isEmpty && chkA N l sc (e :: es)
  | .cio x _ j l, sc, .Call (.Name y _) (e :: es) kw _ => decide (x = y) && glB sc y && okName y && kw.isEmpty && nmB N sc j e && chkA N l sc es
  | .callN x _ l, sc, .Call (.Name y _) (e :: es) kw _ => decide (x = y) && glB sc y && okName y && kw.isEmpty && chkA N l sc (e :: es)
  | .croN x _ j l, sc, .Call (.Name y _) (e :: es) kw _ => decide (x = y) && glB sc y && okName y && kw.isEmpty && nmB N sc j e && chkA N l sc es
  | .lenR j, sc, .Call (.Name x _) [e] kw _ => decide (x = "len") && glB sc x && kw.isEmpty && nmB N sc j e
  | .subR j i, sc, .Subscript ea ei _ => !isSlc ei && nmB N sc j ea && chkC N i sc ei
  | .cro x _ j l, sc, .Call (.Name y _) (e :: es) kw _ => decide (x = y) && glB sc y && okName y && kw.isEmpty && nmB N sc j e && chkA N l sc es
  | .lc elt own t it cond, sc, .ListComp ee gs scope _ => match gs with
    | [⟨tg, iter, ifs, k⟩] => decide (k = 0) && !isSet iter && chkI N it sc iter && (match it with | .enum _ => isTup tg | .zip _ _ => isTup tg | _ => true) && chkT N t scope own tg
        && (own.all fun i => (N[i]?).isSome) && blkC N sc scope (own.map fun i => (N.getD i "", i)) && chkC N elt (relS scope sc) ee
        && (match ifs with | [] => isNop cond | [c] => !isNop cond && chkC N cond (relS scope sc) c | _ => false)
    | _ => false
  | .fx a, sc, e => pureC a && chkC N a sc e
  | _, _, _ => false
def chkA (N : List Str) : C → Scope → List Expr → Bool
  | .anil, _, [] => true
  | .acons a l, sc, e :: es => !isStar e && chkC N a sc e && chkA N l sc es
  | _, _, _ => false
def chkI (N : List Str) : C → Scope → Expr → Bool
  | .rng l, sc, .Call (.Name x _) (e :: es) kw _ => decide (x = "range") && glB sc x && kw.isEmpty && chkA N l sc (e :: es)
  | .enum a, sc, .Call (.Name x _) [e] kw _ => decide (x = "enumerate") && glB sc x && kw.isEmpty && !isStar e && chkC N a sc e
  | .zip a b, sc, .Call (.Name x _) [e, e2] kw _ => decide (x = "zip") && glB sc x && kw.isEmpty && !isStar e && !isStar e2 && chkC N a sc e && chkC N b sc e2
  | .seq a, sc, e => chkC N a sc e
  | _, _, _ => false
end
end Sm

set_option Elab.async false
set_option linter.all false
set_option maxRecDepth 100000
set_option maxHeartbeats 2000000
namespace Sm
open PySem PySem.Spec PyProof.Rows L2

/-! ### data in a heap that grows -/
section
variable {K : PySem.W.Frag} {H H' : Hp}
theorem same_t (e : Same H H') {a : Addr} {xs : List V} (h : SqT K H a xs) : SqT K H' a xs := by
  rcases h with (h | ⟨o, h⟩) | h
  · exact .inl (.inl (e _ _ h))
  · exact .inl (.inr ⟨o, e _ _ h⟩)
  · exact .inr h
mutual
theorem dp_mono (e : Same H H') : ∀ (d : D) (v : V), Dp K H v d → Dp K H' v d
  | .none, _, h => by cases h; exact .non
  | .bool b, _, h => by cases h; exact .bl b
  | .int i, _, h => by cases h; exact .int i
  | .str x, _, h => by cases h; exact .str x
  | .list ds, _, h => by
    cases h with
    | lst hs ha => exact .lst (e.seq hs) (dps_mono e ds _ ha)
  | .tuple ds, _, h => by
    cases h with
    | tup hs ha => exact .tup (same_t e hs) (dps_mono e ds _ ha)
  | .dict _, _, h => by cases h
theorem dps_mono (e : Same H H') : ∀ (ds : List D) (vs : List V), DpAll K H vs ds → DpAll K H' vs ds
  | [], _, h => by cases h; exact .nil
  | d :: ds, _, h => by
    cases h with
    | cons h1 h2 => exact .cons (dp_mono e d _ h1) (dps_mono e ds _ h2)
end
theorem dps_len : ∀ {vs : List V} {ds : List D}, DpAll K H vs ds → vs.length = ds.length
  | _, _, .nil => rfl
  | _, _, .cons _ h => congrArg (· + 1) (dps_len h)
theorem dps_get : ∀ {vs : List V} {ds : List D} {i : Nat} {d : D}, DpAll K H vs ds → ds[i]? = some d → ∃ v, vs[i]? = some v ∧ Dp K H v d
  | _, _, _, _, .nil, e => by simp at e
  | _, _, 0, _, .cons h _, e => by simp at e; subst e; exact ⟨_, rfl, h⟩
  | _, _, i + 1, d, .cons _ h, e => by
    obtain ⟨v, h1, h2⟩ := dps_get (i := i) (d := d) h (by simpa using e)
    exact ⟨v, by simpa using h1, h2⟩
theorem dps_app : ∀ {vs us : List V} {ds es : List D}, DpAll K H vs ds → DpAll K H us es → DpAll K H (vs ++ us) (ds ++ es)
  | _, _, _, _, .nil, s => s
  | _, _, _, _, .cons r t, s => .cons r (dps_app t s)
theorem dps_drop : ∀ {vs : List V} {ds : List D} (n : Nat), DpAll K H vs ds → DpAll K H (vs.drop n) (ds.drop n)
  | _, _, 0, r => r
  | _, _, _ + 1, .nil => .nil
  | _, _, n + 1, .cons _ t => dps_drop n t
theorem dps_take : ∀ {vs : List V} {ds : List D} (n : Nat), DpAll K H vs ds → DpAll K H (vs.take n) (ds.take n)
  | _, _, 0, _ => .nil
  | _, _, _ + 1, .nil => .nil
  | _, _, n + 1, .cons r t => .cons r (dps_take n t)
theorem dps_rev {vs : List V} {ds : List D} (h : DpAll K H vs ds) : DpAll K H vs.reverse ds.reverse := by
  induction ds generalizing vs with
  | nil => cases h; exact .nil
  | cons d ds ih =>
    cases h with
    | cons h1 h2 =>
      rw [List.reverse_cons, List.reverse_cons]
      exact dps_app (ih h2) (.cons h1 .nil)
theorem dps_set : ∀ {vs : List V} {ds : List D} {v : V} {d : D} (i : Nat), DpAll K H vs ds → Dp K H v d → DpAll K H (vs.set i v) (ds.set i d)
  | _, _, _, _, _, .nil, _ => .nil
  | _, _, _, _, 0, .cons _ t, h => .cons h t
  | _, _, _, _, i + 1, .cons q t, h => .cons q (dps_set i t h)
theorem dps_rep {vs : List V} {ds : List D} (h : DpAll K H vs ds) : ∀ k : Nat, DpAll K H (List.replicate k vs).flatten (List.replicate k ds).flatten
  | 0 => .nil
  | k + 1 => by
    rw [List.replicate_succ, List.replicate_succ, List.flatten_cons, List.flatten_cons]
    exact dps_app h (dps_rep h k)
theorem dps_ints : ∀ {vs : List V} {ds : List D} {ns : List Int}, DpAll K H vs ds → intsD ds = some ns → vs = ns.map V.int ∧ ds = ns.map PyData.int
  | _, _, _, .nil, e => by
    simp [intsD] at e
    subst e
    exact ⟨rfl, rfl⟩
  | _, _, ns, .cons (d := d) (ds := ds) h t, e => by
    cases d with
    | int i =>
      simp only [intsD, Option.map_eq_some_iff] at e
      obtain ⟨ms, e1, e2⟩ := e
      obtain ⟨q1, q2⟩ := dps_ints t e1
      subst e2
      cases h
      exact ⟨by rw [q1]; rfl, by rw [q2]; rfl⟩
    | _ => simp [intsD] at e
theorem dps_bools : ∀ {vs : List V} {ds : List D} {ns : List Bool}, DpAll K H vs ds → boolsD ds = some ns → vs = ns.map V.bl
  | _, _, _, .nil, e => by
    simp [boolsD] at e
    subst e
    rfl
  | _, _, ns, .cons (d := d) (ds := ds) h t, e => by
    cases d with
    | bool i =>
      simp only [boolsD, Option.map_eq_some_iff] at e
      obtain ⟨ms, e1, e2⟩ := e
      have q1 := dps_bools t e1
      subst e2
      cases h
      rw [q1]; rfl
    | _ => simp [boolsD] at e
theorem dps_of_ints : ∀ ns : List Int, DpAll K H (ns.map V.int) (ns.map PyData.int)
  | [] => .nil
  | n :: r => .cons (.int n) (dps_of_ints r)
theorem flat_any {v : V} {d : D} (f : flatD d = true) (h : Dp K H v d) : Dp K H' v d := by
  cases h with
  | non => exact .non
  | bl b => exact .bl b
  | int i => exact .int i
  | str x => exact .str x
  | lst _ _ => cases f
  | tup _ _ => cases f

theorem dp_rd {a : Addr} {xs : List V} (h : SqL [] H a xs) : Rd H a (.lst xs) := by
  rcases h with h | ⟨o, its, n, h, _⟩
  · exact h
  · cases h
theorem dp_rt {a : Addr} {xs : List V} (h : SqT [] H a xs) : Rd H a (.tup xs) := by
  rcases h with h | ⟨o, its, n, h, _⟩
  · exact h
  · cases h
mutual
theorem dp_K : ∀ (d : D) (v : V), Dp [] H v d → Dp K H v d
  | .none, _, h => by cases h; exact .non
  | .bool b, _, h => by cases h; exact .bl b
  | .int i, _, h => by cases h; exact .int i
  | .str x, _, h => by cases h; exact .str x
  | .list ds, _, h => by
    cases h with
    | lst hs ha => exact .lst (.inl (dp_rd hs)) (dps_K ds _ ha)
  | .tuple ds, _, h => by
    cases h with
    | tup hs ha => exact .tup (.inl (dp_rt hs)) (dps_K ds _ ha)
  | .dict _, _, h => by cases h
theorem dps_K : ∀ (ds : List D) (vs : List V), DpAll [] H vs ds → DpAll K H vs ds
  | [], _, h => by cases h; exact .nil
  | d :: ds, _, h => by
    cases h with
    | cons h1 h2 => exact .cons (dp_K d _ h1) (dps_K ds _ h2)
end
end
/-- the script: a list of ints that is never changed -/
def RO (K : PySem.W.Frag) (H : Hp) (a : Addr) (ns : List Int) : Prop := (∃ o, H a = some (.frz o (.lst (ns.map V.int)))) ∨
  ∃ (o : Obj) (its : Array Value) (n : Nat), K.lookup a = some o ∧ o.cls = .type "list" ∧ o.dict = none ∧ o.data = .seq its n ∧ its.size ≤ sizeLine ∧ Vals (ns.map V.int) its.toList
theorem RO.sq {K : PySem.W.Frag} {H : Hp} {a : Addr} {ns : List Int} (h : RO K H a ns) : SqL K H a (ns.map V.int) := by
  rcases h with ⟨o, h⟩ | h
  · exact .inl (.inr ⟨o, h⟩)
  · exact .inr h
theorem RO.mono {K : PySem.W.Frag} {H H' : Hp} {a : Addr} {ns : List Int} (h : RO K H a ns) (e : ∀ o u, H a = some (.frz o u) → H' a = some (.frz o u)) : RO K H' a ns := by
  rcases h with ⟨o, h⟩ | h
  · exact .inl ⟨o, e _ _ h⟩
  · exact .inr h
/-! ### the slots and the heap -/
/-- the slots' values: Hs, the part of the heap that holds what may be shared -/
structure SI (K : PySem.W.Frag) (st : DS) (σ : L2.St) (H Hs : Hp) : Prop where
  len : st.length = σ.length
  sub : Same Hs H
  sh : ∀ (i : Nat) (d : D), st[i]? = some (.sh d) → ∃ v, σ[i]? = some (some v) ∧ Dp [] Hs v d
  ow : ∀ (i : Nat) (ds : List D), st[i]? = some (.ow ds) → ∃ a xs, σ[i]? = some (some (.ref a)) ∧ H a = some (.lst xs) ∧ DpAll [] Hs xs ds ∧ Hs a = none
  ne : ∀ (i j : Nat) (ds es : List D) (a : Addr), i ≠ j → st[i]? = some (.ow ds) → st[j]? = some (.ow es) → σ[i]? = some (some (.ref a)) → σ[j]? = some (some (.ref a)) → False
  ro : ∀ (i : Nat) (ns : List Int), st[i]? = some (.ro ns) → ∃ a, σ[i]? = some (some (.ref a)) ∧ RO K H a ns
def Owd (st : DS) (σ : L2.St) (a : Addr) : Prop := ∃ (i : Nat) (ds : List D), st[i]? = some (.ow ds) ∧ σ[i]? = some (some (.ref a))
/-- what a step leaves; p: nothing that stood is changed -/
structure Go (p : Bool) (st : DS) (σ : L2.St) (H Hs : Hp) (st' : DS) (σ' : L2.St) (H' Hs' : Hp) : Prop where
  fr : ∀ a o, ¬ Owd st σ a → H a = some o → H' a = some o
  al : ∀ a, H' a = none → H a = none
  old : Same Hs Hs'
  new : ∀ a o, Hs' a = some o → (∃ u, Hs a = some u) ∨ H a = none ∨ Owd st σ a
  ows : ∀ a, Owd st' σ' a → Owd st σ a ∨ H a = none
  pu : p = true → Same H H'
section
variable {K : PySem.W.Frag} {st st1 st2 : DS} {σ σ1 σ2 : L2.St} {H Hs H1 Hs1 H2 Hs2 : Hp} {p q : Bool}
theorem Go.refl : Go p st σ H Hs st σ H Hs := ⟨fun _ _ _ h => h, fun _ h => h, fun _ _ h => h, fun a o h => .inl ⟨o, h⟩, fun _ h => .inl h, fun _ => fun _ _ h => h⟩
theorem Go.trans (a : Go p st σ H Hs st1 σ1 H1 Hs1) (b : Go q st1 σ1 H1 Hs1 st2 σ2 H2 Hs2) : Go (p && q) st σ H Hs st2 σ2 H2 Hs2 where
  fr := fun x o n h => b.fr x o (fun z => by
    rcases a.ows x z with z | z
    · exact n z
    · rw [h] at z; cases z) (a.fr x o n h)
  al := fun x h => a.al x (b.al x h)
  old := fun x o h => b.old x o (a.old x o h)
  new := fun x o h => by
    rcases b.new x o h with ⟨u, z⟩ | z | z
    · exact a.new x u z
    · exact .inr (.inl (a.al x z))
    · rcases a.ows x z with z | z
      · exact .inr (.inr z)
      · exact .inr (.inl z)
  ows := fun x h => by
    rcases b.ows x h with z | z
    · exact a.ows x z
    · exact .inr (a.al x z)
  pu := fun e x o h => by
    rw [Bool.and_eq_true] at e
    exact b.pu e.2 x o (a.pu e.1 x o h)
theorem Go.weak (a : Go p st σ H Hs st1 σ1 H1 Hs1) (h : q = true → p = true) : Go q st σ H Hs st1 σ1 H1 Hs1 := ⟨a.fr, a.al, a.old, a.new, a.ows, fun e => a.pu (h e)⟩
theorem SI.up (I : SI K st σ H Hs) {v : V} {d : D} (h : Dp [] Hs v d) : Dp [] H v d := dp_mono I.sub d v h
theorem SI.ups (I : SI K st σ H Hs) {v : List V} {d : List D} (h : DpAll [] Hs v d) : DpAll [] H v d := dps_mono I.sub d v h
theorem Go.dp (g : Go p st σ H Hs st1 σ1 H1 Hs1) {v : V} {d : D} (h : Dp [] Hs v d) : Dp [] Hs1 v d := dp_mono g.old d v h
theorem Go.dps (g : Go p st σ H Hs st1 σ1 H1 Hs1) {v : List V} {d : List D} (h : DpAll [] Hs v d) : DpAll [] Hs1 v d := dps_mono g.old d v h

/-- a new object, not told of -/
theorem si_new {a : Addr} {o : HO} (I : SI K st σ H Hs) (h : H a = none) : SI K st σ (upd H a o) Hs ∧ Go p st σ H Hs st σ (upd H a o) Hs := by
  have e : Same H (upd H a o) := fun b u q => by rw [upd_ne (ne_of_none q h)]; exact q
  refine ⟨⟨I.len, fun b u q => e b u (I.sub b u q), I.sh, fun i ds q => ?_, I.ne, fun i ns q => ?_⟩, ⟨fun b u _ q => e b u q, fun b q => ?_, fun _ _ q => q, fun b u q => .inl ⟨u, q⟩, fun _ q => .inl q, fun _ => e⟩⟩
  · obtain ⟨b, xs, h1, h2, h3, h4⟩ := I.ow i ds q
    exact ⟨b, xs, h1, e b _ h2, h3, h4⟩
  · obtain ⟨b, h1, h2⟩ := I.ro i ns q
    exact ⟨b, h1, h2.mono fun o u z => e b _ z⟩
  · cases z : H b with
    | none => rfl
    | some u => rw [e b u z] at q; cases q
/-- an object that no slot alone holds is told of -/
theorem si_tell {a : Addr} {o : HO} (I : SI K st σ H Hs) (h : H a = some o) (hs : Hs a = none) (n : ¬ Owd st σ a) : SI K st σ H (upd Hs a o) ∧ Same Hs (upd Hs a o) := by
  have e : Same Hs (upd Hs a o) := fun b u q => by rw [upd_ne (ne_of_none q hs)]; exact q
  refine ⟨⟨I.len, fun b u q => ?_, fun i d q => ?_, fun i ds q => ?_, I.ne, I.ro⟩, e⟩
  · by_cases z : b = a
    · subst z; rw [upd_same] at q; cases q; exact h
    · rw [upd_ne z] at q; exact I.sub b u q
  · obtain ⟨v, h1, h2⟩ := I.sh i d q
    exact ⟨v, h1, dp_mono e d v h2⟩
  · obtain ⟨b, xs, h1, h2, h3, h4⟩ := I.ow i ds q
    refine ⟨b, xs, h1, h2, dps_mono e ds xs h3, ?_⟩
    rw [upd_ne]
    · exact h4
    · rintro rfl
      exact n ⟨i, ds, q, h1⟩
theorem SI.noOw (I : SI K st σ H Hs) {a : Addr} (h : H a = none) : ¬ Owd st σ a := fun ⟨i, ds, h1, h2⟩ => by
  obtain ⟨b, xs, q1, q2, _⟩ := I.ow i ds h1
  rw [h2] at q1
  cases q1
  rw [h] at q2; cases q2
/-- a new object that is told of at once -/
theorem si_lay {a : Addr} {o : HO} (I : SI K st σ H Hs) (h : H a = none) : SI K st σ (upd H a o) (upd Hs a o) ∧ Go p st σ H Hs st σ (upd H a o) (upd Hs a o) := by
  obtain ⟨I1, g1⟩ := si_new (p := p) (o := o) I h
  have hs : Hs a = none := by
    cases z : Hs a with
    | none => rfl
    | some u => rw [I.sub a u z] at h; cases h
  obtain ⟨I2, e⟩ := si_tell I1 upd_same hs (I.noOw h)
  refine ⟨I2, ⟨g1.fr, g1.al, e, fun b u q => ?_, g1.ows, g1.pu⟩⟩
  by_cases z : b = a
  · subst z; exact .inr (.inl h)
  · rw [upd_ne z] at q; exact .inl ⟨u, q⟩
/-- what a slot alone held may be shared from here on -/
theorem si_move {i : Nat} {ds : List D} (I : SI K st σ H Hs) (h : st[i]? = some (.ow ds)) : ∃ a xs Hs', σ[i]? = some (some (.ref a)) ∧ SI K (st.set i (.sh (.list ds))) σ H Hs' ∧
    Go p st σ H Hs (st.set i (.sh (.list ds))) σ H Hs' ∧ Hs' a = some (.lst xs) ∧ DpAll [] Hs' xs ds := by
  obtain ⟨a, xs, h1, h2, h3, h4⟩ := I.ow i ds h
  have hi : i < st.length := (List.getElem?_eq_some_iff.mp h).1
  have e : Same Hs (upd Hs a (.lst xs)) := fun b u q => by rw [upd_ne (ne_of_none q h4)]; exact q
  have d1 : DpAll [] (upd Hs a (.lst xs)) xs ds := dps_mono e ds xs h3
  refine ⟨a, xs, upd Hs a (.lst xs), h1, ⟨by rw [List.length_set]; exact I.len, fun b u q => ?_, fun j d q => ?_, fun j es q => ?_, fun j k es fs b hn q1 q2 => ?_, fun j ns q => ?_⟩, ⟨fun _ _ _ q => q, fun _ q => q, e, fun b u q => ?_, fun b q => ?_, fun _ _ _ q => q⟩, upd_same, d1⟩
  · by_cases z : b = a
    · subst z; rw [upd_same] at q; cases q; exact h2
    · rw [upd_ne z] at q; exact I.sub b u q
  · by_cases z : j = i
    · subst z
      rw [List.getElem?_set_self hi] at q
      cases q
      exact ⟨_, h1, .lst (.inl (.inl upd_same)) d1⟩
    · rw [List.getElem?_set_ne (Ne.symm z)] at q
      obtain ⟨v, q1, q2⟩ := I.sh j d q
      exact ⟨v, q1, dp_mono e d v q2⟩
  · by_cases z : j = i
    · subst z
      rw [List.getElem?_set_self hi] at q
      cases q
    · rw [List.getElem?_set_ne (Ne.symm z)] at q
      obtain ⟨b, ys, q1, q2, q3, q4⟩ := I.ow j es q
      refine ⟨b, ys, q1, q2, dps_mono e es ys q3, ?_⟩
      rw [upd_ne]
      · exact q4
      · rintro rfl
        exact I.ne j i es ds b z q h q1 h1
  · have z1 : j ≠ i := by
      rintro rfl
      rw [List.getElem?_set_self hi] at q1; cases q1
    have z2 : k ≠ i := by
      rintro rfl
      rw [List.getElem?_set_self hi] at q2; cases q2
    rw [List.getElem?_set_ne (Ne.symm z1)] at q1
    rw [List.getElem?_set_ne (Ne.symm z2)] at q2
    exact I.ne j k es fs b hn q1 q2
  · by_cases z : j = i
    · subst z
      rw [List.getElem?_set_self hi] at q; cases q
    · rw [List.getElem?_set_ne (Ne.symm z)] at q
      exact I.ro j ns q
  · by_cases z : b = a
    · subst z; exact .inr (.inr ⟨i, ds, h, h1⟩)
    · rw [upd_ne z] at q; exact .inl ⟨u, q⟩
  · obtain ⟨j, es, q1, q2⟩ := q
    have z1 : j ≠ i := by
      rintro rfl
      rw [List.getElem?_set_self hi] at q1; cases q1
    rw [List.getElem?_set_ne (Ne.symm z1)] at q1
    exact .inl ⟨j, es, q1, q2⟩
/-- a slot's own list is changed -/
theorem si_write {i : Nat} {ds es : List D} {a : Addr} {xs ys : List V} (I : SI K st σ H Hs) (h : st[i]? = some (.ow ds)) (h1 : σ[i]? = some (some (.ref a))) (hy : DpAll [] Hs ys es) :
    SI K (st.set i (.ow es)) σ (upd H a (.lst ys)) Hs ∧ Go false st σ H Hs (st.set i (.ow es)) σ (upd H a (.lst ys)) Hs := by
  obtain ⟨a', xs', h1', h2, h3, h4⟩ := I.ow i ds h
  rw [h1] at h1'
  cases h1'
  have hi : i < st.length := (List.getElem?_eq_some_iff.mp h).1
  have own : ∀ {j : Nat} {fs : List D}, (st.set i (.ow es))[j]? = some (.ow fs) → ∃ gs, st[j]? = some (.ow gs) := fun {j fs} q => by
    by_cases z : j = i
    · subst z; exact ⟨_, h⟩
    · rw [List.getElem?_set_ne (Ne.symm z)] at q; exact ⟨_, q⟩
  refine ⟨⟨by rw [List.length_set]; exact I.len, fun b u q => ?_, fun j d q => ?_, fun j fs q => ?_, fun j k fs gs b hn q1 q2 => ?_, fun j ns q => ?_⟩, ⟨fun b o n q => ?_, fun b q => ?_, fun _ _ q => q, fun b u q => .inl ⟨u, q⟩, fun b q => ?_, fun z => nomatch z⟩⟩
  · rw [upd_ne (ne_of_none q h4)]; exact I.sub b u q
  · by_cases z : j = i
    · subst z
      rw [List.getElem?_set_self hi] at q
      cases q
    · rw [List.getElem?_set_ne (Ne.symm z)] at q
      exact I.sh j d q
  · by_cases z : j = i
    · subst z
      rw [List.getElem?_set_self hi] at q
      cases q
      exact ⟨a, ys, h1, upd_same, hy, h4⟩
    · rw [List.getElem?_set_ne (Ne.symm z)] at q
      obtain ⟨b, zs, q1, q2, q3, q4⟩ := I.ow j fs q
      refine ⟨b, zs, q1, ?_, q3, q4⟩
      rw [upd_ne]
      · exact q2
      · rintro rfl
        exact I.ne j i fs ds b z q h q1 h1
  · obtain ⟨gs1, q1'⟩ := own q1
    obtain ⟨gs2, q2'⟩ := own q2
    exact I.ne j k gs1 gs2 b hn q1' q2'
  · by_cases z : j = i
    · subst z
      rw [List.getElem?_set_self hi] at q; cases q
    · rw [List.getElem?_set_ne (Ne.symm z)] at q
      obtain ⟨b, q1, q2⟩ := I.ro j ns q
      refine ⟨b, q1, q2.mono fun o u w => ?_⟩
      rw [upd_ne]
      · exact w
      · rintro rfl
        rw [h2] at w; cases w
  · rw [upd_ne]
    · exact q
    · rintro rfl
      exact n ⟨i, ds, h, h1⟩
  · by_cases z : b = a
    · subst z; rw [upd_same] at q; cases q
    · rw [upd_ne z] at q; exact q
  · obtain ⟨j, fs, q1, q2⟩ := q
    obtain ⟨gs, q1'⟩ := own q1
    exact .inl ⟨j, gs, q1', q2⟩
/-- a slot takes a value -/
theorem si_set {i : Nat} {v : V} {d : D} (I : SI K st σ H Hs) (hi : i < st.length) (h : Dp [] Hs v d) :
    SI K (st.set i (.sh d)) (σ.set i (some v)) H Hs ∧ Go p st σ H Hs (st.set i (.sh d)) (σ.set i (some v)) H Hs := by
  have hi' : i < σ.length := by rw [← I.len]; exact hi
  have own : ∀ {j : Nat} {fs : List D}, (st.set i (.sh d))[j]? = some (.ow fs) → j ≠ i ∧ st[j]? = some (.ow fs) := fun {j fs} q => by
    by_cases z : j = i
    · subst z; rw [List.getElem?_set_self hi] at q; cases q
    · rw [List.getElem?_set_ne (Ne.symm z)] at q; exact ⟨z, q⟩
  refine ⟨⟨by rw [List.length_set, List.length_set]; exact I.len, I.sub, fun j e q => ?_, fun j fs q => ?_, fun j k fs gs b hn q1 q2 q3 q4 => ?_, fun j ns q => ?_⟩, ⟨fun _ _ _ q => q, fun _ q => q, fun _ _ q => q, fun b u q => .inl ⟨u, q⟩, fun b q => ?_, fun _ _ _ q => q⟩⟩
  · by_cases z : j = i
    · subst z
      rw [List.getElem?_set_self hi] at q
      cases q
      exact ⟨v, List.getElem?_set_self hi', h⟩
    · rw [List.getElem?_set_ne (Ne.symm z)] at q
      rw [List.getElem?_set_ne (Ne.symm z)]
      exact I.sh j e q
  · obtain ⟨z, q⟩ := own q
    rw [List.getElem?_set_ne (Ne.symm z)]
    exact I.ow j fs q
  · obtain ⟨z1, q1⟩ := own q1
    obtain ⟨z2, q2⟩ := own q2
    rw [List.getElem?_set_ne (Ne.symm z1)] at q3
    rw [List.getElem?_set_ne (Ne.symm z2)] at q4
    exact I.ne j k fs gs b hn q1 q2 q3 q4
  · by_cases z : j = i
    · subst z
      rw [List.getElem?_set_self hi] at q; cases q
    · rw [List.getElem?_set_ne (Ne.symm z)] at q
      rw [List.getElem?_set_ne (Ne.symm z)]
      exact I.ro j ns q
  · obtain ⟨j, fs, q1, q2⟩ := q
    obtain ⟨z1, q1⟩ := own q1
    rw [List.getElem?_set_ne (Ne.symm z1)] at q2
    exact .inl ⟨j, fs, q1, q2⟩
/-- a slot takes a new list that is not told of -/
theorem si_setO {i : Nat} {a : Addr} {xs : List V} {ds : List D} (I : SI K st σ H Hs) (hi : i < st.length) (h : H a = some (.lst xs)) (h2 : DpAll [] Hs xs ds) (h3 : Hs a = none) (n : ¬ Owd st σ a) :
    SI K (st.set i (.ow ds)) (σ.set i (some (.ref a))) H Hs ∧ ∀ b, Owd (st.set i (.ow ds)) (σ.set i (some (.ref a))) b → Owd st σ b ∨ b = a := by
  have hi' : i < σ.length := by rw [← I.len]; exact hi
  have own : ∀ {j : Nat} {fs : List D}, (st.set i (.ow ds))[j]? = some (.ow fs) → j ≠ i → st[j]? = some (.ow fs) := fun {j fs} q z => by
    rw [List.getElem?_set_ne (Ne.symm z)] at q; exact q
  refine ⟨⟨by rw [List.length_set, List.length_set]; exact I.len, I.sub, fun j e q => ?_, fun j fs q => ?_, fun j k fs gs b hn q1 q2 q3 q4 => ?_, fun j ns q => ?_⟩, fun b q => ?_⟩
  · by_cases z : j = i
    · subst z
      rw [List.getElem?_set_self hi] at q
      cases q
    · rw [List.getElem?_set_ne (Ne.symm z)] at q
      rw [List.getElem?_set_ne (Ne.symm z)]
      exact I.sh j e q
  · by_cases z : j = i
    · subst z
      rw [List.getElem?_set_self hi] at q
      cases q
      exact ⟨a, xs, List.getElem?_set_self hi', h, h2, h3⟩
    · rw [List.getElem?_set_ne (Ne.symm z)]
      exact I.ow j fs (own q z)
  · by_cases z1 : j = i
    · subst z1
      rw [List.getElem?_set_self hi'] at q3
      cases q3
      rw [List.getElem?_set_ne hn] at q4
      exact n ⟨k, gs, own q2 (Ne.symm hn), q4⟩
    · rw [List.getElem?_set_ne (Ne.symm z1)] at q3
      by_cases z2 : k = i
      · subst z2
        rw [List.getElem?_set_self hi'] at q4
        cases q4
        exact n ⟨j, fs, own q1 z1, q3⟩
      · rw [List.getElem?_set_ne (Ne.symm z2)] at q4
        exact I.ne j k fs gs b hn (own q1 z1) (own q2 z2) q3 q4
  · by_cases z : j = i
    · subst z
      rw [List.getElem?_set_self hi] at q; cases q
    · rw [List.getElem?_set_ne (Ne.symm z)] at q
      rw [List.getElem?_set_ne (Ne.symm z)]
      exact I.ro j ns q
  · obtain ⟨j, fs, q1, q2⟩ := q
    by_cases z1 : j = i
    · subst z1
      rw [List.getElem?_set_self hi'] at q2
      cases q2
      exact .inr rfl
    · rw [List.getElem?_set_ne (Ne.symm z1)] at q2
      exact .inl ⟨j, fs, own q1 z1, q2⟩
end
end Sm

set_option Elab.async false
set_option linter.all false
set_option maxRecDepth 100000
set_option maxHeartbeats 2000000
namespace Sm
open PySem PySem.Spec PyProof.Rows L2

/-! ### the contexts in which a text runs -/
structure En where
  P : Program
  w : World
  K : PySem.W.Frag
  mg : Str → Option Value
  base : Heap
  k : Nat
  hb : ∀ x ∈ bltNames, mg x = none
structure Gd (E : En) (N : List Str) (sc s0 : Scope) (X : Cx) : Prop where
  eP : X.prog = E.P
  ew : X.w = E.w
  eK : X.K = E.K
  emg : X.mg = E.mg
  ebase : X.base = E.base
  eN : X.N = N
  nd : N.Nodup
  esc : X.env.scope = sc
  calm : X.calm = true
  room : Room E.k X.A
  exe : X.xe = fun _ _ => False
  stor : ∀ x, locB s0 x = true → Loc X.env.scope x ∧ (X.fn x = true ∨ X.env.scope.names.lookup x = some .local)
section
variable (E : En) (N : List Str) (sc s0 : Scope)
def wE (e : Expr) : TE := fun σ H Q => ∀ X, Gd E N sc s0 X → ∀ pins s, Inv X pins σ H s → wpAny (model X.prog X.w) X.A (eval e X.env) (EP X pins σ Q) X.xe s
def wT (e : Expr) : TT := fun σ H Q => ∀ X, Gd E N sc s0 X → ∀ pins s, Inv X pins σ H s → wpAny (model X.prog X.w) X.A (isTrue e X.env (eval e X.env)) (TP X pins σ Q) X.xe s
def wW (e : Expr) : TT := fun σ H Q => ∀ X, Gd E N sc s0 X → ∀ (wh : Sem Value) pins s, Inv X pins σ H s → wpAny (model X.prog X.w) X.A (isTrue e X.env wh) (TP X pins σ Q) X.xe s
def wA (es : List Expr) : TA := fun σ H Q => ∀ X, Gd E N sc s0 X → ∀ pos pins s, Inv X pins σ H s → wpAny (model X.prog X.w) X.A (spliced (backTo pos (starEach es X.env))) (AP X pins σ Q) X.xe s
def wI (tg iter : Expr) : TI := fun σ H R => ∀ X, Gd E N sc s0 X → ∀ pins s, Inv X pins σ H s → wpAny (model X.prog X.w) X.A (eval iter X.env) (fun v s1 => wpAny (model X.prog X.w) X.A (pyIter v) (PIE X pins σ tg R) X.xe s1) X.xe s
def wS (st : Stmt) : TS := fun D σ H => ∀ X, Gd E N sc s0 X → ∀ pins s, Inv X pins σ H s → wpAny (model X.prog X.w) X.A (exec st X.env) (SP X pins D) X.xe s
def wSs (st : List Stmt) : TS := fun D σ H => ∀ X, Gd E N sc s0 X → ∀ pins s, Inv X pins σ H s → wpAny (model X.prog X.w) X.A (execs st X.env) (SP X pins D) X.xe s
end
section
variable {E : En} {N : List Str} {sc s0 : Scope} {X : Cx} {e tg : Expr} {es : List Expr} {st : Stmt} {sts : List Stmt} {σ : L2.St} {H : Hp}
theorem Gd.pe (g : Gd E N sc s0 X) : PE X e (wE E N sc s0 e) := ⟨fun pins s σ H Q I q => q X g pins s I⟩
theorem Gd.pt (g : Gd E N sc s0 X) : PT X e (wT E N sc s0 e) := ⟨fun pins s σ H Q I q => q X g pins s I⟩
theorem Gd.pw (g : Gd E N sc s0 X) : PW X e (wW E N sc s0 e) := ⟨fun wh pins s σ H Q I q => q X g wh pins s I⟩
theorem Gd.pa (g : Gd E N sc s0 X) : PA X es (wA E N sc s0 es) := ⟨fun pos pins s σ H Q I q => q X g pos pins s I⟩
theorem Gd.pi (g : Gd E N sc s0 X) : PI X tg e (wI E N sc s0 tg e) := ⟨fun pins s σ H Q I q => q X g pins s I⟩
theorem Gd.ps (g : Gd E N sc s0 X) : PS X st (wS E N sc s0 st) := ⟨fun pins s σ H D I q => q X g pins s I⟩
theorem Gd.pss (g : Gd E N sc s0 X) : PSs X sts (wSs E N sc s0 sts) := ⟨fun pins s σ H D I q => q X g pins s I⟩
theorem up {t : TE} (h : ∀ X, Gd E N sc s0 X → PE X e t) {Q : VK} (q : t σ H Q) : wE E N sc s0 e σ H Q := fun X g pins s I => (h X g).run pins s σ H Q I q
theorem upT {t : TT} (h : ∀ X, Gd E N sc s0 X → PT X e t) {Q : Bool → Hp → Prop} (q : t σ H Q) : wT E N sc s0 e σ H Q := fun X g pins s I => (h X g).run pins s σ H Q I q
theorem upW {t : TT} (h : ∀ X, Gd E N sc s0 X → PW X e t) {Q : Bool → Hp → Prop} (q : t σ H Q) : wW E N sc s0 e σ H Q := fun X g wh pins s I => (h X g).run wh pins s σ H Q I q
theorem upA {t : TA} (h : ∀ X, Gd E N sc s0 X → PA X es t) {Q : List V → Hp → Prop} (q : t σ H Q) : wA E N sc s0 es σ H Q := fun X g pos pins s I => (h X g).run pos pins s σ H Q I q
theorem upI {t : TI} (h : ∀ X, Gd E N sc s0 X → PI X tg e t) {R : It → Hp → Prop} (q : t σ H R) : wI E N sc s0 tg e σ H R := fun X g pins s I => (h X g).run pins s σ H R I q
theorem upS {t : TS} (h : ∀ X, Gd E N sc s0 X → PS X st t) {D : Ends} (q : t D σ H) : wS E N sc s0 st D σ H := fun X g pins s I => (h X g).run pins s σ H D I q
theorem upSs {t : TS} (h : ∀ X, Gd E N sc s0 X → PSs X sts t) {D : Ends} (q : t D σ H) : wSs E N sc s0 sts D σ H := fun X g pins s I => (h X g).run pins s σ H D I q
theorem Gd.gl (g : Gd E N sc s0 X) {x : Str} (h : glB sc x = true) : Gl X x := by
  have e : X.env.scope.names.lookup x = some .globalImplicit := by
    rw [g.esc]
    unfold glB at h
    split at h
    · assumption
    · cases h
  exact e
theorem Gd.mn (g : Gd E N sc s0 X) {x : Str} (h : x ∈ bltNames) : X.mg x = none := by rw [g.emg]; exact E.hb x h
theorem Gd.u65 (g : Gd E N sc s0 X) : X.A.units + 65 < cLine := by have := g.room.un; omega
theorem Gd.fn (g : Gd E N sc s0 X) {k : Nat} {f : Addr} {fd : FuncData} {ps : List Str} {sp : Sp} (h : FnOk E.P E.w E.K E.mg E.base CX0 k f fd ps sp) : FnOk X.prog X.w X.K X.mg X.base CX0 k f fd ps sp := by
  rw [g.eP, g.ew, g.eK, g.emg, g.ebase]; exact h
theorem ok_debug {x : Str} (h : okName x = true) : (x == ("__debug__" : Str)) = false := by
  simp only [okName, Bool.and_eq_true, Bool.not_eq_true', decide_eq_false_iff_not] at h
  simpa using h.1
theorem ok_cdict {x : Str} (h : okName x = true) : (x == ("__classdict__" : Str)) = false := by
  simp only [okName, Bool.and_eq_true, Bool.not_eq_true', decide_eq_false_iff_not] at h
  simpa using h.2
theorem Gd.nm (g : Gd E N sc s0 X) {i : Nat} (h : nmB N sc i e = true) : PE X e (tVar i) := by
  cases e <;> first | exact Bool.noConfusion h | skip
  rename_i x p
  simp only [nmB, Bool.and_eq_true, decide_eq_true_eq] at h
  obtain ⟨⟨h1, h2⟩, h3⟩ := h
  refine pe_var (by rw [g.eN]; exact h1) ?_ (ok_debug h3) (ok_cdict h3)
  rw [g.esc]
  unfold visB at h2
  unfold Vis
  split at h2
  · exact .inl (by assumption)
  · exact .inr (.inl (by assumption))
  · exact .inr (.inr (by assumption))
  · cases h2
theorem star_ne {e : Expr} {es : List Expr} {env : Env} (h : isStar e = false) : starEach (e :: es) env = (false, eval e env) :: starEach es env := by
  cases e <;> first | rfl | exact Bool.noConfusion h
theorem no_star {N : List Str} {sc : Scope} {env : Env} {pos : Pos} : ∀ {l : C} {es : List Expr}, chkA N l sc es = true → (backTo pos (starEach es env)).any (·.1) = false ∧ (backTo pos (starEach es env)).all (fun x => !x.1) = true
  | l, [], _ => ⟨rfl, rfl⟩
  | l, e :: es, h => by
    cases l with
    | acons a l =>
      simp only [chkA, Bool.and_eq_true, Bool.not_eq_true'] at h
      have := no_star (env := env) (pos := pos) h.2
      rw [star_ne h.1.1]
      simp only [backTo, List.map_cons, List.any_cons, List.all_cons] at this ⊢
      exact ⟨by rw [this.1]; rfl, by rw [this.2]; rfl⟩
    | _ => exact absurd h (by simp [chkA])
end

/-! ### what a called def promises -/
/-- a pure function of its arguments -/
def spP (n : Nat) (f : List D → Option D) : Sp := fun vs H Q _ => ∃ (Hs : Hp) (ds : List D) (r : D), vs.length = n ∧ Same Hs H ∧ DpAll [] Hs vs ds ∧ f ds = some r ∧
  ∀ v H' Hs', Same H H' → Same Hs Hs' → Same Hs' H' → (∀ a o, Hs' a = some o → (∃ u, Hs a = some u) ∨ H a = none) → Dp [] Hs' v r → Q v H'
/-- .. the first argument the script -/
def spRO (K : PySem.W.Frag) (n : Nat) (f : List Int → List D → Option D) : Sp := fun vs H Q _ => ∃ (Hs : Hp) (c : Addr) (ns : List Int) (us : List V) (ds : List D) (r : D), vs = .ref c :: us ∧ vs.length = n ∧ Same Hs H ∧ RO K H c ns ∧ DpAll [] Hs us ds ∧ f ns ds = some r ∧
  ∀ v H' Hs', Same H H' → Same Hs Hs' → Same Hs' H' → (∀ a o, Hs' a = some o → (∃ u, Hs a = some u) ∨ H a = none) → Dp [] Hs' v r → Q v H'
/-- .. a new list comes back -/
def spN (n : Nat) (f : List D → Option (List D)) : Sp := fun vs H Q _ => ∃ (Hs : Hp) (ds : List D) (r : List D), vs.length = n ∧ Same Hs H ∧ DpAll [] Hs vs ds ∧ f ds = some r ∧
  ∀ a xs H' Hs', Same H H' → Same Hs Hs' → Same Hs' H' → (∀ a o, Hs' a = some o → (∃ u, Hs a = some u) ∨ H a = none) → H a = none → H' a = some (.lst xs) → Hs' a = none → DpAll [] Hs' xs r → Q (.ref a) H'
def spRN (K : PySem.W.Frag) (n : Nat) (f : List Int → List D → Option (List D)) : Sp := fun vs H Q _ => ∃ (Hs : Hp) (c : Addr) (ns : List Int) (us : List V) (ds : List D) (r : List D), vs = .ref c :: us ∧ vs.length = n ∧ Same Hs H ∧ RO K H c ns ∧ DpAll [] Hs us ds ∧ f ns ds = some r ∧
  ∀ a xs H' Hs', Same H H' → Same Hs Hs' → Same Hs' H' → (∀ a o, Hs' a = some o → (∃ u, Hs a = some u) ∨ H a = none) → H a = none → H' a = some (.lst xs) → Hs' a = none → DpAll [] Hs' xs r → Q (.ref a) H'
/-- .. the first argument a list that it changes -/
def spIO (n : Nat) (f : List D → List D → Option (D × List D)) : Sp := fun vs H Q _ => ∃ (Hs : Hp) (c : Addr) (xs : List V) (d0 : List D) (us : List V) (ds : List D) (r : D) (d1 : List D),
  vs = .ref c :: us ∧ vs.length = n ∧ Same Hs H ∧ H c = some (.lst xs) ∧ Hs c = none ∧ DpAll [] Hs xs d0 ∧ DpAll [] Hs us ds ∧ f d0 ds = some (r, d1) ∧
  ∀ v H' Hs' ys, (∀ a o, a ≠ c → H a = some o → H' a = some o) → Same Hs Hs' → Same Hs' H' → (∀ a o, Hs' a = some o → (∃ u, Hs a = some u) ∨ H a = none) → H' c = some (.lst ys) → DpAll [] Hs' ys d1 → Dp [] Hs' v r → Q v H'
structure CallOk (E : En) (x : Str) (n : Nat) (dvs : List V) (sp : Sp) : Prop where
  ex : ∃ (f : Addr) (fd : FuncData) (ps : List Str) (ds : List Value), E.mg x = some (.ref f) ∧ PySem.W.keepIn E.K (.ref f) = true ∧ ps.length = n ∧ FnOk E.P E.w E.K E.mg E.base CX0 E.k f fd ps sp ∧ Binds E.K fd ps ds ∧ Vals dvs ds
/-- dd: the defaults that fill up -/
def okF (E : En) (x : Str) (f : List D → Option D) : Prop := ∃ (n : Nat) (dvs : List V) (dd : List D) (f' : List D → Option D), CallOk E x n dvs (spP n f') ∧ (∀ H, DpAll [] H dvs dd) ∧ ∀ ds r, f ds = some r → f' (ds ++ dd) = some r ∧ ds.length + dvs.length = n
def okR (E : En) (x : Str) (f : List Int → List D → Option D) : Prop := ∃ n, CallOk E x n [] (spRO E.K n f) ∧ ∀ ns ds r, f ns ds = some r → ds.length + 1 = n
def okN (E : En) (x : Str) (f : List D → Option (List D)) : Prop := ∃ n, CallOk E x n [] (spN n f) ∧ ∀ ds r, f ds = some r → ds.length = n
def okRN (E : En) (x : Str) (f : List Int → List D → Option (List D)) : Prop := ∃ n, CallOk E x n [] (spRN E.K n f) ∧ ∀ ns ds r, f ns ds = some r → ds.length + 1 = n
def okG (E : En) (x : Str) (f : List D → List D → Option (D × List D)) : Prop := ∃ n, CallOk E x n [] (spIO n f) ∧ ∀ d0 ds r, f d0 ds = some r → ds.length + 1 = n
def okV (E : En) (x : Str) (d : D) : Prop := ∃ (v : V) (u : Value), E.mg x = some u ∧ RelV v u ∧ Dp [] (fun _ => none) v d ∧ flatD d = true
/-- all calls in a term are of such defs -/
def okC (E : En) : C → Prop
  | .var _ => True | .lit d => flatD d = true | .glob x d => okV E x d
  | .bin _ a b => okC E a ∧ okC E b | .neg a => okC E a
  | .cmp _ a b => okC E a ∧ okC E b | .ch2 _ _ a b c => okC E a ∧ okC E b ∧ okC E c | .ch3 _ _ _ a b c d => okC E a ∧ okC E b ∧ okC E c ∧ okC E d
  | .isN a => okC E a | .notN a => okC E a
  | .and a b => okC E a ∧ okC E b | .or a b => okC E a ∧ okC E b | .not a => okC E a | .ife t a b => okC E t ∧ okC E a ∧ okC E b
  | .tup l => okC E l | .lst l => okC E l
  | .sub a i => okC E a ∧ okC E i | .subO _ i => okC E i | .slice a lo hi => okC E a ∧ okC E lo ∧ okC E hi | .slcO _ lo hi => okC E lo ∧ okC E hi | .rev a => okC E a
  | .blt _ l => okC E l | .isi _ a => okC E a | .srev a => okC E a | .call x f l => okF E x f ∧ okC E l | .cio x f _ l => okG E x f ∧ okC E l
  | .lenR _ => True | .subR _ i => okC E i | .cro x f _ l => okR E x f ∧ okC E l
  | .callN x f l => okN E x f ∧ okC E l | .croN x f _ l => okRN E x f ∧ okC E l
  | .lc e _ _ it c => okC E e ∧ okC E it ∧ okC E c
  | .rng l => okC E l | .enum a => okC E a | .zip a b => okC E a ∧ okC E b | .seq a => okC E a
  | .fx a => okC E a | .nop => True | .anil => True | .acons a l => okC E a ∧ okC E l

/-! ### what the evaluation says of the machine -/
def Aft (K : PySem.W.Frag) (p : Bool) (st : DS) (σ : L2.St) (H Hs : Hp) (st' : DS) (d : D) (Q : VK) : Prop :=
  ∀ v H' Hs', SI K st' σ H' Hs' → Go p st σ H Hs st' σ H' Hs' → Dp [] Hs' v d → Q v H'
def AftT (K : PySem.W.Frag) (p : Bool) (st : DS) (σ : L2.St) (H Hs : Hp) (st' : DS) (b : Bool) (Q : Bool → Hp → Prop) : Prop :=
  ∀ H' Hs', SI K st' σ H' Hs' → Go p st σ H Hs st' σ H' Hs' → Q b H'
def AftA (K : PySem.W.Frag) (p : Bool) (st : DS) (σ : L2.St) (H Hs : Hp) (st' : DS) (ds : List D) (Q : List V → Hp → Prop) : Prop :=
  ∀ vs H' Hs', SI K st' σ H' Hs' → Go p st σ H Hs st' σ H' Hs' → DpAll [] Hs' vs ds → Q vs H'
/-- a new list that is not told of -/
def AftF (K : PySem.W.Frag) (p : Bool) (st : DS) (σ : L2.St) (H Hs : Hp) (st' : DS) (ds : List D) (Q : VK) : Prop :=
  ∀ a xs H' Hs', SI K st' σ H' Hs' → Go p st σ H Hs st' σ H' Hs' → H a = none → H' a = some (.lst xs) → Hs' a = none → ¬ Owd st' σ a → DpAll [] Hs' xs ds → Q (.ref a) H'
/-- what an iterator gives -/
def Yok (Hs H : Hp) (d : D) (x : V) (H' : Hp) : Prop := (H' = H ∧ Dp [] Hs x d) ∨ ∃ (t : Addr) (x1 x2 : V) (d1 d2 : D), x = .ref t ∧ H t = none ∧ H' = upd H t (.tup [x1, x2]) ∧ d = .tuple [d1, d2] ∧ Dp [] Hs x1 d1 ∧ Dp [] Hs x2 d2
def Iok (ds : List D) (J : It) (Hs : Hp) : Prop := ∃ (G : Hp → Prop) (Y : Nat → Hp → V → Hp → Prop), Walk J ds.length G Y ∧ (∀ H2 Hs2, Same Hs Hs2 → Same Hs2 H2 → G H2) ∧
  ∀ i x H2 H3 Hs2, i < ds.length → Same Hs Hs2 → Same Hs2 H2 → Y i H2 x H3 → ∃ d, ds[i]? = some d ∧ Yok Hs2 H2 d x H3
def AftI (K : PySem.W.Frag) (p : Bool) (st : DS) (σ : L2.St) (H Hs : Hp) (st' : DS) (ds : List D) (R : It → Hp → Prop) : Prop :=
  ∀ J H' Hs', SI K st' σ H' Hs' → Go p st σ H Hs st' σ H' Hs' → Iok ds J Hs' → R J H'
def tgOk (it : C) (tg : Expr) : Bool := match it with | .enum _ => isTup tg | .zip _ _ => isTup tg | _ => true
structure Snd (E : En) (N : List Str) (c : C) : Prop where
  C : ∀ (sc s0 : Scope) (e : Expr), chkC N c sc e = true → ∀ st st' d, evC c st = some (d, st') → ∀ σ H Hs, SI E.K st σ H Hs → ∀ Q, Aft E.K (pureC c) st σ H Hs st' d Q → wE E N sc s0 e σ H Q
  F : freshC c = true → ∀ (sc s0 : Scope) (e : Expr), chkC N c sc e = true → ∀ st st' ds, evC c st = some (.list ds, st') → ∀ σ H Hs, SI E.K st σ H Hs → ∀ Q, AftF E.K (pureC c) st σ H Hs st' ds Q → wE E N sc s0 e σ H Q
  T : ∀ (sc s0 : Scope) (e : Expr), chkC N c sc e = true → ∀ st st' b, evC c st = some (.bool b, st') → ∀ σ H Hs, SI E.K st σ H Hs → ∀ Q, AftT E.K (pureC c) st σ H Hs st' b Q → wT E N sc s0 e σ H Q
  W : ∀ (sc s0 : Scope) (op : BoolOp) (vs : List Expr) (p : Pos), chkC N c sc (.BoolOp op vs p) = true → ∀ st st' b, evC c st = some (.bool b, st') → ∀ σ H Hs, SI E.K st σ H Hs → ∀ Q, AftT E.K (pureC c) st σ H Hs st' b Q → wW E N sc s0 (.BoolOp op vs p) σ H Q
  A : ∀ (sc s0 : Scope) (es : List Expr), chkA N c sc es = true → ∀ st st' ds, evA c st = some (ds, st') → ∀ σ H Hs, SI E.K st σ H Hs → ∀ Q, AftA E.K (pureC c) st σ H Hs st' ds Q → wA E N sc s0 es σ H Q
  I : ∀ (sc s0 : Scope) (e tg : Expr), chkI N c sc e = true → tgOk c tg = true → ∀ st st' ds, evI c st = some (ds, st') → ∀ σ H Hs, SI E.K st σ H Hs → ∀ R, AftI E.K (pureC c) st σ H Hs st' ds R → wI E N sc s0 tg e σ H R

section
variable {K : PySem.W.Frag} {st st1 st2 : DS} {σ σ1 σ2 : L2.St} {H Hs H1 Hs1 H2 Hs2 : Hp} {p q : Bool}
theorem aft_list {ds : List D} {zs : List V} {Q : VK} (I : SI K st1 σ H1 Hs1) (g : Go p st σ H Hs st1 σ H1 Hs1) (hz : DpAll [] Hs1 zs ds) (k : Aft K p st σ H Hs st1 (.list ds) Q) (a : Addr) (ha : H1 a = none) : Q (.ref a) (upd H1 a (.lst zs)) := by
  obtain ⟨I2, g2⟩ := si_lay (p := true) (o := .lst zs) I ha
  exact k _ _ _ I2 ((g.trans g2).weak fun z => by rw [z]; rfl) (.lst (.inl (.inl upd_same)) (g2.dps hz))
theorem aft_tup {ds : List D} {zs : List V} {Q : VK} (I : SI K st1 σ H1 Hs1) (g : Go p st σ H Hs st1 σ H1 Hs1) (hz : DpAll [] Hs1 zs ds) (k : Aft K p st σ H Hs st1 (.tuple ds) Q) (a : Addr) (ha : H1 a = none) : Q (.ref a) (upd H1 a (.tup zs)) := by
  obtain ⟨I2, g2⟩ := si_lay (p := true) (o := .tup zs) I ha
  exact k _ _ _ I2 ((g.trans g2).weak fun z => by rw [z]; rfl) (.tup (.inl (.inl upd_same)) (g2.dps hz))
theorem aftF_list {ds : List D} {zs : List V} {Q : VK} (I : SI K st1 σ H1 Hs1) (g : Go p st σ H Hs st1 σ H1 Hs1) (hz : DpAll [] Hs1 zs ds) (k : AftF K p st σ H Hs st1 ds Q) (a : Addr) (ha : H1 a = none) : Q (.ref a) (upd H1 a (.lst zs)) := by
  obtain ⟨I2, g2⟩ := si_new (p := true) (o := .lst zs) I ha
  have hs : Hs1 a = none := by
    cases z : Hs1 a with
    | none => rfl
    | some u => rw [I.sub a u z] at ha; cases ha
  exact k a zs _ _ I2 ((g.trans g2).weak fun z => by rw [z]; rfl) (g.al a ha) upd_same hs (I.noOw ha) hz
theorem aft_of_F {ds : List D} {Q : VK} (k : Aft K p st σ H Hs st1 (.list ds) Q) : AftF K p st σ H Hs st1 ds Q := fun a xs H' Hs' I' g ha ha' hs no hx => by
  obtain ⟨I2, e⟩ := si_tell I' ha' hs no
  refine k _ _ _ I2 ⟨g.fr, g.al, g.old.trans e, fun b o z => ?_, g.ows, g.pu⟩ (.lst (.inl (.inl upd_same)) (dps_mono e ds xs hx))
  by_cases w : b = a
  · subst w; exact .inr (.inl ha)
  · rw [upd_ne w] at z; exact g.new b o z
end
end Sm

set_option Elab.async false
set_option linter.all false
set_option maxRecDepth 100000
set_option maxHeartbeats 2000000
namespace Sm
open PySem PySem.Spec PyProof.Rows L2
theorem line_eq : (line : Nat) = sizeLine := by rw [sizeLine_eq]; rfl
section
variable {X : Cx}
/-- a list as it stands: tracked, or known to the object -/
theorem rd_lst {pins : List (Addr × Obj)} {σ : L2.St} {H : Hp} {s : Shared} {l : Addr} {xs : List V} (I : Inv X pins σ H s) (h : Rd H l (.lst xs)) :
    xs.length ≤ sizeLine ∧ ∃ (its : List Value) (n : Nat), Vals xs its ∧ xs.length = its.length ∧ s.heap.get? l = some { cls := .type "list", data := .seq its.toArray n } := by
  obtain ⟨z, its, n, r, e⟩ : ObjOk X.prog X.w H s.heap l (.lst xs) := h.ok I.hok
  exact ⟨z, its, n, r, r.length, e⟩
def rCatS : R2 := fun x y H Q => ∃ l b xs zs, x = .ref l ∧ y = .ref b ∧ Rd H l (.lst xs) ∧ Rd H b (.lst zs) ∧ xs.length + zs.length ≤ sizeLine ∧ ∀ p, H p = none → Q (.ref p) (upd H p (.lst (xs ++ zs)))
theorem op_catS : OpR X (binaryOp .Add) rCatS := by
  intro pins s σ H x y v u Q I rx ry h
  obtain ⟨l, b, xs, zs, rfl, rfl, hH, hB, hz, q⟩ := h
  cases rx
  cases ry
  obtain ⟨z, its, n, r, hl, e⟩ := rd_lst I hH
  obtain ⟨z2, its2, n2, r2, hl2, e2⟩ := rd_lst I hB
  refine PySem.P.add_list e e2 ?_ (by rw [List.size_toArray, List.size_toArray]; omega)
  have ea : its.toArray ++ its2.toArray = (its ++ its2).toArray := by simp
  rw [ea]
  exact ⟨.ref _, _, I.lnew (t' := s.toks) (r.append r2) (by rw [List.length_append]; omega), rfl, q _ I.fresh⟩
def rRepS : R2 := fun x y H Q => ∃ l k xs, x = .ref l ∧ y = .int k ∧ Rd H l (.lst xs) ∧ -(2 ^ 63) ≤ k ∧ k < 2 ^ 63 ∧ xs.length * k.toNat ≤ sizeLine ∧
  ∀ p, H p = none → Q (.ref p) (upd H p (.lst (List.replicate k.toNat xs).flatten))
theorem op_repS : OpR X (binaryOp .Mult) rRepS := by
  intro pins s σ H x y v u Q I rx ry h
  obtain ⟨l, k, xs, rfl, rfl, hH, h1, h2, hz, q⟩ := h
  cases rx
  obtain ⟨t, rfl⟩ := ry
  obtain ⟨z, its, n, r, hl, e⟩ := rd_lst I hH
  have hlen : its.toArray.size * k.toNat ≤ sizeLine := by rw [List.size_toArray, ← hl]; exact hz
  have hcap : ¬ its.toArray.size * k.toNat > (2 ^ 63 - 1) / 8 := by
    have : (sizeLine : Nat) ≤ (2 ^ 63 - 1) / 8 := by decide
    omega
  have hfit : ¬ (!Builtin.List.listFitsIndex k) = true := by
    rw [fitsIndex_both h1 h2]
    exact Bool.false_ne_true
  have hlong : ¬ Builtin.List.listTooLong (its.toArray.size * k.toNat) = true := by
    rw [notLongL hlen]
    exact Bool.false_ne_true
  have hnew : List.foldl (fun x1 x2 => x1 ++ x2) #[] (List.replicate (if its.toArray.isEmpty = true then 0 else k.toNat) its.toArray) = (List.replicate k.toNat its).flatten.toArray := by
    have f0 : ∀ m : Nat, List.foldl (fun x1 x2 => x1 ++ x2) #[] (List.replicate m its.toArray) = (List.replicate m its).flatten.toArray := fun m => by
      have := foldl_rep its m []
      rw [List.nil_append] at this
      exact this
    rw [f0]
    cases its with
    | nil => simp
    | cons a r' => rw [if_neg (by simp)]
  refine wpAny_binaryOp_repeat_ref (T := "list") (U := "int") (by decide) ⟨_, e, rfl⟩ (fun s' => typeIs_int s' k t) noFill_list_mul F.fills_int_mul F.slot_int_rmul repeat_list F.slot_int_index.lookup
    (call_meets F.slot_int_rmul (typeIs_int s k t) F.entry_int_rmul (F.args_int_rmul_2 _ _) (int___rmul___int_list k t l its.toArray n)
      ⟨e, rfl, ⟨_, e, rfl⟩, call_meets F.slot_list_mul ⟨_, e, rfl⟩ F.entry_list_mul (F.args_list_mul_2 _ _) (AutoListH.list___mul___list_int_3 l its.toArray n k t hfit hcap hlong) ⟨e, ?_⟩⟩)
  rw [hnew]
  exact ⟨.ref _, _, I.lnew (t' := s.toks) (r.rep k.toNat) (by rw [PyProof.Rows.lm_len_rep_flat, Nat.mul_comm]; exact hz), rfl, q _ I.fresh⟩
theorem op_powW : OpR X (binaryOp .Pow) (rI (fun i j => 0 ≤ j ∧ (Builtin.Int.intBits i : Int) * j ≤ 2 ^ 27) fun i j => .int (i ^ j.toNat)) := opI fun _ _ _ _ _ _ _ hc q => pow_int hc.1 hc.2 q
/-- the rules by the operator -/
def rBin : BO → R2
  | .add => fun x y H Q => (rI0 fun i j => .int (i + j)) x y H Q ∨ (rCatS x y H Q ∨ ∃ i j, x = .str i ∧ y = .str j ∧ i.length + j.length ≤ sizeLine ∧ Q (.str (i ++ j)) H)
  | .sub => rI0 fun i j => .int (i - j)
  | .mul => fun x y H Q => (rI CMulW fun i j => .int (i * j)) x y H Q ∨ rRepS x y H Q
  | .fdiv => rI CDivW fun i j => .int (i / j)
  | .mod => rI (fun _ j => 0 < j) fun i j => .int (i % j)
  | .pow => rI (fun i j => 0 ≤ j ∧ (Builtin.Int.intBits i : Int) * j ≤ 2 ^ 27) fun i j => .int (i ^ j.toNat)
theorem bin_rule {o : BO} {op : Operator} (h : opB o op = true) : OpR X (binaryOp op) (rBin o) := by
  cases o <;> cases op <;> first
    | exact Bool.noConfusion h
    | exact op_add.or (op_catS.or op_add_str)
    | exact op_sub
    | exact op_mulW.or op_repS
    | exact op_fdivW
    | exact op_mod
    | exact op_powW
end
theorem bin_val {o : BO} {d1 d2 d : D} (h : binD o d1 d2 = some d) {Hs H : Hp} (sub : Same Hs H) {x y : V} (h1 : Dp [] Hs x d1) (h2 : Dp [] Hs y d2) {Q : VK} (q1 : flatD d = true → ∀ v, Dp [] Hs v d → Q v H)
    (q2 : ∀ (zs : List V) (ds : List D), d = .list ds → DpAll [] Hs zs ds → ∀ p, H p = none → Q (.ref p) (upd H p (.lst zs))) : rBin o x y H Q := by
  have rd : ∀ {a : Addr} {u : HO}, Rd Hs a u → Rd H a u := fun {a u} r => by
    rcases r with r | ⟨o, r⟩
    · exact .inl (sub _ _ r)
    · exact .inr ⟨o, sub _ _ r⟩
  cases o with
  | add =>
    cases d1 with
    | int i =>
      cases d2 with
      | int j => cases h1; cases h2; cases h; exact .inl ⟨i, j, rfl, rfl, q1 rfl _ (.int _)⟩
      | _ => cases h
    | list a =>
      cases d2 with
      | list b =>
        cases h1 with
        | lst hs ha =>
          cases h2 with
          | lst ht hb =>
            simp only [binD] at h
            split at h
            · cases h
              refine .inr (.inl ⟨_, _, _, _, rfl, rfl, rd (dp_rd hs), rd (dp_rd ht), ?_, fun p hp => q2 _ _ rfl (dps_app ha hb) p hp⟩)
              rw [dps_len ha, dps_len hb, ← line_eq]
              assumption
            · cases h
      | _ => cases h
    | str a =>
      cases d2 with
      | str b =>
        cases h1; cases h2
        simp only [binD] at h
        split at h
        · cases h
          exact .inr (.inr ⟨a, b, rfl, rfl, by rw [← line_eq]; assumption, q1 rfl _ (.str _)⟩)
        · cases h
      | _ => cases h
    | _ => cases h
  | sub =>
    cases d1 with
    | int i =>
      cases d2 with
      | int j => cases h1; cases h2; cases h; exact ⟨i, j, rfl, rfl, q1 rfl _ (.int _)⟩
      | _ => cases h
    | _ => cases h
  | mul =>
    cases d1 with
    | int i =>
      cases d2 with
      | int j =>
        cases h1; cases h2
        simp only [binD] at h
        split at h
        · rename_i hc
          cases h
          have hc' : i.natAbs.log2 + j.natAbs.log2 < 1000000 := by simpa [bitsOk] using hc
          exact .inl ⟨i, j, rfl, rfl, hc', q1 rfl _ (.int _)⟩
        · cases h
      | _ => cases h
    | list a =>
      cases d2 with
      | int k =>
        cases h2
        cases h1 with
        | lst hs ha =>
          simp only [binD] at h
          split at h
          · rename_i hc
            cases h
            refine .inr ⟨_, k, _, rfl, rfl, rd (dp_rd hs), hc.1, hc.2.1, ?_, fun p hp => q2 _ _ rfl (dps_rep ha _) p hp⟩
            rw [dps_len ha, ← line_eq]
            exact hc.2.2
          · cases h
      | _ => cases h
    | _ => cases h
  | fdiv =>
    cases d1 with
    | int i =>
      cases d2 with
      | int j =>
        cases h1; cases h2
        simp only [binD] at h
        split at h
        · rename_i hc
          cases h
          exact ⟨i, j, rfl, rfl, hc, q1 rfl _ (.int _)⟩
        · cases h
      | _ => cases h
    | _ => cases h
  | mod =>
    cases d1 with
    | int i =>
      cases d2 with
      | int j =>
        cases h1; cases h2
        simp only [binD] at h
        split at h
        · rename_i hc
          cases h
          exact ⟨i, j, rfl, rfl, hc, q1 rfl _ (.int _)⟩
        · cases h
      | _ => cases h
    | _ => cases h
  | pow =>
    cases d1 with
    | int i =>
      cases d2 with
      | int j =>
        cases h1; cases h2
        simp only [binD] at h
        split at h
        · rename_i hc
          cases h
          exact ⟨i, j, rfl, rfl, hc, q1 rfl _ (.int _)⟩
        · cases h
      | _ => cases h
    | _ => cases h

/-! ### comparisons -/
section
variable {E : En} {N : List Str} {sc s0 : Scope} {X : Cx}
def rCmp (K : PySem.W.Frag) : CO → R2
  | .eq => rEqD K
  | .ne => rNeD K
  | .lt => rI0 fun i j => .bl (decide (i < j))
  | .le => rI0 fun i j => .bl (decide (i ≤ j))
  | .gt => rI0 fun i j => .bl (decide (j < i))
  | .ge => rI0 fun i j => .bl (decide (j ≤ i))
  | .inn => fun x y H Q => rInD K x y H Q ∨ rIn K false x y H Q
  | .nin => fun x y H Q => rNotInD K x y H Q ∨ rIn K true x y H Q
theorem cmp_rule {o : CO} {op : CmpOp} (h : coB o op = true) (g : Gd E N sc s0 X) : OpR X (compareOp op) (rCmp E.K o) := by
  have hu := g.u65
  rw [← g.eK]
  cases o <;> cases op <;> first
    | exact Bool.noConfusion h
    | exact op_eqD (by omega)
    | exact op_neD (by omega)
    | exact op_lt
    | exact op_le
    | exact op_gt
    | exact op_ge
    | exact (op_inD hu).or op_in_seq
    | exact (op_notInD hu).or op_notIn_seq
theorem mark_no {o : CO} {op : CmpOp} {e : Expr} (h : isSet e = false) : behindInMarks op e = false := by
  cases e <;> first | rfl | exact Bool.noConfusion h
end
theorem flat_eqv {Hs : Hp} {x y : V} {d e : D} (hx : Dp [] Hs x d) (hy : Dp [] Hs y e) (fx : flatD d = true) (fy : flatD e = true) : flatV x = true ∧ flatV y = true ∧ eqV x y = PyData.eqv d e := by
  cases hx <;> cases hy <;> first | exact Bool.noConfusion fx | exact Bool.noConfusion fy | exact ⟨rfl, rfl, rfl⟩
theorem flat_in {Hs : Hp} {x : V} {d : D} (hx : Dp [] Hs x d) (fx : flatD d = true) : ∀ {ys : List V} {es : List D}, DpAll [] Hs ys es → es.all flatD = true → ys.all flatV = true ∧ inV x ys = es.any fun z => PyData.eqv z d
  | _, _, .nil, _ => ⟨rfl, rfl⟩
  | _, _, .cons (v := y) (d := e) h t, f => by
    rw [List.all_cons, Bool.and_eq_true] at f
    obtain ⟨h1, h2⟩ := flat_in hx fx t f.2
    obtain ⟨a, b, c⟩ := flat_eqv h hx f.1 fx
    refine ⟨by rw [List.all_cons, a, h1]; rfl, ?_⟩
    show (eqV y x || inV x _) = (_ || _)
    rw [h2, c]
theorem cmp_val {K : PySem.W.Frag} {o : CO} {d1 d2 : D} {b : Bool} (h : cmpD o d1 d2 = some b) {Hs H : Hp} (sub : Same Hs H) {x y : V} (h1 : Dp [] Hs x d1) (h2 : Dp [] Hs y d2) {Q : VK} (q : Q (.bl b) H) : rCmp K o x y H Q := by
  have k1 : Dp K H x d1 := dp_K _ _ (dp_mono sub _ _ h1)
  have k2 : Dp K H y d2 := dp_K _ _ (dp_mono sub _ _ h2)
  have rt : ∀ {a : Addr} {u : HO}, Rd Hs a u → Rd H a u := fun {a u} r => by
    rcases r with r | ⟨o, r⟩
    · exact .inl (sub _ _ r)
    · exact .inr ⟨o, sub _ _ r⟩
  cases o with
  | eq =>
    simp only [cmpD] at h
    split at h
    · rename_i hc
      rw [Bool.and_eq_true] at hc
      cases h
      exact ⟨d1, d2, k1, k2, hc.1, hc.2, q⟩
    · cases h
  | ne =>
    simp only [cmpD] at h
    split at h
    · rename_i hc
      rw [Bool.and_eq_true] at hc
      cases h
      exact ⟨d1, d2, k1, k2, hc.1, hc.2, q⟩
    · cases h
  | lt =>
    cases d1 with
    | int i =>
      cases d2 with
      | int j => cases h1; cases h2; cases h; exact ⟨i, j, rfl, rfl, q⟩
      | _ => cases h
    | _ => cases h
  | le =>
    cases d1 with
    | int i =>
      cases d2 with
      | int j => cases h1; cases h2; cases h; exact ⟨i, j, rfl, rfl, q⟩
      | _ => cases h
    | _ => cases h
  | gt =>
    cases d1 with
    | int i =>
      cases d2 with
      | int j => cases h1; cases h2; cases h; exact ⟨i, j, rfl, rfl, q⟩
      | _ => cases h
    | _ => cases h
  | ge =>
    cases d1 with
    | int i =>
      cases d2 with
      | int j => cases h1; cases h2; cases h; exact ⟨i, j, rfl, rfl, q⟩
      | _ => cases h
    | _ => cases h
  | inn =>
    cases d2 with
    | list ds =>
      simp only [cmpD] at h
      split at h
      · rename_i hc
        rw [Bool.and_eq_true] at hc
        cases h
        exact .inl ⟨d1, ds, k1, k2, hc.1, hc.2, q⟩
      · cases h
    | tuple ds =>
      simp only [cmpD] at h
      split at h
      · rename_i hc
        rw [Bool.and_eq_true] at hc
        cases h
        cases h2 with
        | tup hs ha =>
          obtain ⟨f1, f2⟩ := flat_in h1 hc.1 ha hc.2
          refine .inr ⟨_, _, rfl, .inr (.inl (rt (dp_rt hs))), ?_, f1, ?_⟩
          · exact (flat_eqv h1 h1 hc.1 hc.1).1
          · rw [f2]; exact q
      · cases h
    | _ => cases h
  | nin =>
    cases d2 with
    | list ds =>
      simp only [cmpD] at h
      split at h
      · rename_i hc
        rw [Bool.and_eq_true] at hc
        cases h
        exact .inl ⟨d1, ds, k1, k2, hc.1, hc.2, q⟩
      · cases h
    | tuple ds =>
      simp only [cmpD] at h
      split at h
      · rename_i hc
        rw [Bool.and_eq_true] at hc
        cases h
        cases h2 with
        | tup hs ha =>
          obtain ⟨f1, f2⟩ := flat_in h1 hc.1 ha hc.2
          refine .inr ⟨_, _, rfl, .inr (.inl (rt (dp_rt hs))), ?_, f1, ?_⟩
          · exact (flat_eqv h1 h1 hc.1 hc.1).1
          · rw [f2]; exact q
      · cases h
    | _ => cases h
end Sm

set_option Elab.async false
set_option linter.all false
set_option maxRecDepth 100000
set_option maxHeartbeats 2000000
namespace Sm
open PySem PySem.Spec PyProof.Rows L2
theorem rd_up {Hs H : Hp} (sub : Same Hs H) {a : Addr} {u : HO} (r : Rd Hs a u) : Rd H a u := by
  rcases r with r | ⟨o, r⟩
  · exact .inl (sub _ _ r)
  · exact .inr ⟨o, sub _ _ r⟩
/-! ### greatest, least, sorted -/
theorem maxL_mem : ∀ {ns : List Int}, ns ≠ [] → maxL ns ∈ ns ∧ ∀ y ∈ ns, y ≤ maxL ns
  | [a], _ => by simp [maxL]
  | a :: b :: r, _ => by
    obtain ⟨h1, h2⟩ := maxL_mem (ns := b :: r) (by simp)
    have e : maxL (a :: b :: r) = max a (maxL (b :: r)) := rfl
    refine ⟨?_, fun y hy => ?_⟩
    · rw [e]
      by_cases c : a ≤ maxL (b :: r)
      · rw [Int.max_eq_right c]; exact List.mem_cons_of_mem _ h1
      · rw [Int.max_eq_left (by omega)]; exact List.mem_cons_self
    · rw [e]
      rcases List.mem_cons.mp hy with rfl | hy
      · exact Int.le_max_left _ _
      · exact Int.le_trans (h2 y hy) (Int.le_max_right _ _)
theorem minL_mem : ∀ {ns : List Int}, ns ≠ [] → minL ns ∈ ns ∧ ∀ y ∈ ns, minL ns ≤ y
  | [a], _ => by simp [minL]
  | a :: b :: r, _ => by
    obtain ⟨h1, h2⟩ := minL_mem (ns := b :: r) (by simp)
    have e : minL (a :: b :: r) = min a (minL (b :: r)) := rfl
    refine ⟨?_, fun y hy => ?_⟩
    · rw [e]
      by_cases c : a ≤ minL (b :: r)
      · rw [Int.min_eq_left c]; exact List.mem_cons_self
      · rw [Int.min_eq_right (by omega)]; exact List.mem_cons_of_mem _ h1
    · rw [e]
      rcases List.mem_cons.mp hy with rfl | hy
      · exact Int.min_le_left _ _
      · exact Int.le_trans (Int.min_le_right _ _) (h2 y hy)
theorem sorted_one {ns ms : List Int} {r : Int → Int → Prop} (as : ∀ a b, r a b → r b a → a = b) : ns.Perm ms → ns.Pairwise r → ms.Pairwise r → ns = ms := by
  induction ns generalizing ms with
  | nil => intro p _ _; exact (List.Perm.nil_eq p)
  | cons a l ih =>
    intro p h1 h2
    cases ms with
    | nil => exact absurd p.length_eq (by simp)
    | cons b m =>
      rw [List.pairwise_cons] at h1 h2
      have hab : a = b := by
        have m1 : a ∈ b :: m := p.mem_iff.mp List.mem_cons_self
        have m2 : b ∈ a :: l := p.mem_iff.mpr List.mem_cons_self
        rcases List.mem_cons.mp m1 with e | m1
        · exact e
        · rcases List.mem_cons.mp m2 with e | m2
          · exact e.symm
          · exact as _ _ (h1.1 b m2) (h2.1 a m1)
      subst hab
      rw [ih (List.Perm.cons_inv p) h1.2 h2.2]
theorem sortL_is {ns ms : List Int} (p : ms.Perm ns) (h : ms.Pairwise (· ≤ ·)) : ms = sortL ns := by
  refine sorted_one (r := (· ≤ ·)) (fun a b => Int.le_antisymm) (p.trans (List.mergeSort_perm _ _).symm) h ?_
  have := List.pairwise_mergeSort (le := fun a b : Int => decide (a ≤ b)) (fun a b c h1 h2 => by simp at *; omega) (fun a b => by simp; omega) ns
  exact this.imp fun z => of_decide_eq_true z
theorem sortR_is {ns ms : List Int} (p : ms.Perm ns) (h : ms.Pairwise (· ≥ ·)) : ms = sortR ns := by
  refine sorted_one (r := (· ≥ ·)) (fun a b h1 h2 => Int.le_antisymm h2 h1) (p.trans (List.mergeSort_perm _ _).symm) h ?_
  have := List.pairwise_mergeSort (le := fun a b : Int => decide (b ≤ a)) (fun a b c h1 h2 => by simp at *; omega) (fun a b => by simp; omega) ns
  exact this.imp fun z => of_decide_eq_true z

/-! ### built-in functions -/
section
variable {E : En} {N : List Str} {sc s0 : Scope} {X : Cx}
def tyRel {Hs : Hp} {K : PySem.W.Frag} {x : V} {d : D} (h : Dp [] Hs x d) : Prop := True
def tyName : D → String
  | .none => "NoneType" | .bool _ => "bool" | .int _ => "int" | .str _ => "str" | .list _ => "list" | .tuple _ => "tuple" | .dict _ => "dict"
theorem dp_ty {K : PySem.W.Frag} {H : Hp} {x : V} {d : D} (h : Dp [] H x d) : TyX K H x (.type (tyName d)) := by
  cases h with
  | non => exact .base .non
  | bl b => exact .base (.bl b)
  | int i => exact .base (.int i)
  | str s => exact .base (.str s)
  | lst hs _ =>
    rcases dp_rd hs with h | ⟨o, h⟩
    · exact .base (.lst h)
    · exact .base (.frz h)
  | tup hs _ =>
    rcases dp_rt hs with h | ⟨o, h⟩
    · exact .base (.tup h)
    · exact .fTuple h
/-- values are data of such kinds: built-in functions that make no new object -/
def rFlat (f : FB) : List V → Hp → VK → Prop := fun vs H Q => ∃ (ds : List D) (d : D), DpAll [] H vs ds ∧ bltD f ds = some d ∧ flatD d = true ∧ ∀ v, (∀ H', Dp [] H' v d) → Q v H
theorem flat_v {d : D} (f : flatD d = true) : ∃ v, ∀ H', Dp [] H' v d := by
  cases d with
  | none => exact ⟨_, fun _ => .non⟩
  | bool b => exact ⟨_, fun _ => .bl b⟩
  | int i => exact ⟨_, fun _ => .int i⟩
  | str s => exact ⟨_, fun _ => .str s⟩
  | _ => cases f
end
section
variable {X : Cx}
theorem call_max2' (hc : X.calm = true) : CallR X (.builtin "max") (fun xs H Q => (∃ i j, xs = [.int i, .int j] ∧ Q (.int (if j > i then j else i)) H) ∨ rMax X.K xs H Q) := CallR.or (call_max2 hc) (cr_max hc)
theorem call_min2' (hc : X.calm = true) : CallR X (.builtin "min") (fun xs H Q => (∃ i j, xs = [.int i, .int j] ∧ Q (.int (if j < i then j else i)) H) ∨ rMin X.K xs H Q) := CallR.or (call_min2 hc) (cr_min hc)
end
def rBlt (K : PySem.W.Frag) : FB → List V → Hp → VK → Prop
  | .len => fun xs H Q => (∃ p ys, xs = [.ref p] ∧ (SqL K H p ys ∨ SqT K H p ys) ∧ Q (.int ys.length) H) ∨ ∃ z, xs = [.str z] ∧ z.length ≤ sizeLine ∧ Q (.int z.length) H
  | .abs => fun xs H Q => ∃ i, xs = [.int i] ∧ Q (.int (if i < 0 then -i else i)) H
  | .sum => rSum K
  | .max => fun xs H Q => (∃ i j, xs = [.int i, .int j] ∧ Q (.int (if j > i then j else i)) H) ∨ rMax K xs H Q
  | .min => fun xs H Q => (∃ i j, xs = [.int i, .int j] ∧ Q (.int (if j < i then j else i)) H) ∨ rMin K xs H Q
  | .sorted => rSortedI K
  | .list => fun xs H Q => ∃ p ys, xs = [.ref p] ∧ (SqL K H p ys ∨ SqT K H p ys) ∧ ∀ l, H l = none → Q (.ref l) (upd H l (.lst ys))
  | .tuple => fun xs H Q => ∃ p ys, xs = [.ref p] ∧ ((SqL K H p ys ∧ ∀ l, H l = none → Q (.ref l) (upd H l (.tup ys))) ∨ (SqT K H p ys ∧ Q (.ref p) H))
  | .int => fun xs H Q => (∃ i, xs = [.int i] ∧ Q (.int i) H) ∨ ∃ k, xs = [.bl k] ∧ Q (.int (if k then 1 else 0)) H
  | .all => rAll K
  | .any => rAny K
  | _ => fun _ _ _ => False
def isTyB : FB → Bool | .len => false | .abs => false | .sum => false | .max => false | .min => false | .sorted => false | .all => false | .any => false | _ => true
theorem blt_rule {E : En} {N : List Str} {sc s0 : Scope} {X : Cx} {e : Expr} {es : List Expr} {p pos : Pos} (g : Gd E N sc s0 X) {f : FB} (hf : fbTy f = none) {l : C} (hl : chkA N l sc (e :: es) = true) (hg : glB sc (fbName f) = true) :
    PE X (.Call (.Name (fbName f) p) (e :: es) [] pos) (tCB (rBlt E.K f) (wA E N sc s0 (e :: es))) := by
  have he : starEach (e :: es) X.env = (false, eval e X.env) :: starEach es X.env := by
    cases l with
    | acons a l =>
      simp only [chkA, Bool.and_eq_true, Bool.not_eq_true'] at hl
      exact star_ne hl.1.1
    | _ => exact absurd hl (by simp [chkA])
  have hpl : (backTo pos (starEach es X.env)).any (·.1) = false := by
    cases l with
    | acons a l =>
      simp only [chkA, Bool.and_eq_true, Bool.not_eq_true'] at hl
      exact (no_star hl.2).1
    | _ => exact absurd hl (by simp [chkA])
  rw [← g.eK]
  cases f with
  | len => exact pe_callB (call_len_seq.or call_len_str) (g.gl hg) (g.mn (by decide)) PySem.boot_len g.pa (by decide) (by decide) he hpl
  | abs => exact pe_callB call_abs (g.gl hg) (g.mn (by decide)) (by decide +kernel) g.pa (by decide) (by decide) he hpl
  | sum => exact pe_callB (cr_sum g.calm) (g.gl hg) (g.mn (by decide)) (by decide +kernel) g.pa (by decide) (by decide) he hpl
  | max => exact pe_callB (call_max2' g.calm) (g.gl hg) (g.mn (by decide)) (by decide +kernel) g.pa (by decide) (by decide) he hpl
  | min => exact pe_callB (call_min2' g.calm) (g.gl hg) (g.mn (by decide)) (by decide +kernel) g.pa (by decide) (by decide) he hpl
  | sorted => exact pe_callB cr_sortedI (g.gl hg) (g.mn (by decide)) (by decide +kernel) g.pa (by decide) (by decide) he hpl
  | list => exact pe_callTy call_list_of (g.gl hg) (g.mn (by decide)) (by decide +kernel) g.pa (by decide) (by decide) he hpl
  | tuple => exact pe_callTy call_tuple_of (g.gl hg) (g.mn (by decide)) (by decide +kernel) g.pa (by decide) (by decide) he hpl
  | int => exact pe_callTy call_int1 (g.gl hg) (g.mn (by decide)) (by decide +kernel) g.pa (by decide) (by decide) he hpl
  | all => exact pe_callB (cr_all g.calm) (g.gl hg) (g.mn (by decide)) (by decide +kernel) g.pa (by decide) (by decide) he hpl
  | any => exact pe_callB (cr_any g.calm) (g.gl hg) (g.mn (by decide)) (by decide +kernel) g.pa (by decide) (by decide) he hpl
  | _ => cases hf
theorem dps1 {H : Hp} {vs : List V} {d : D} (h : DpAll [] H vs [d]) : ∃ v, vs = [v] ∧ Dp [] H v d := by
  cases h with
  | cons h1 h2 => cases h2; exact ⟨_, rfl, h1⟩
theorem dps2 {H : Hp} {vs : List V} {d e : D} (h : DpAll [] H vs [d, e]) : ∃ v u, vs = [v, u] ∧ Dp [] H v d ∧ Dp [] H u e := by
  cases h with
  | cons h1 h2 =>
    obtain ⟨u, e1, e2⟩ := dps1 h2
    exact ⟨_, u, by rw [e1], h1, e2⟩
theorem blt_val {K : PySem.W.Frag} {f : FB} (hf : fbTy f = none) {ds : List D} {d : D} (h : bltD f ds = some d) {Hs H : Hp} (sub : Same Hs H) {vs : List V} (hv : DpAll [] Hs vs ds) {Q : VK} (q1 : ∀ v, Dp [] Hs v d → Q v H)
    (q2 : ∀ (zs : List V) (es : List D), d = .list es → DpAll [] Hs zs es → ∀ p, H p = none → Q (.ref p) (upd H p (.lst zs)))
    (q3 : ∀ (zs : List V) (es : List D), d = .tuple es → DpAll [] Hs zs es → ∀ p, H p = none → Q (.ref p) (upd H p (.tup zs))) : rBlt K f vs H Q := by
  have sq : ∀ {a : Addr} {xs : List V}, SqL [] Hs a xs → SqL K H a xs := fun hs => .inl (rd_up sub (dp_rd hs))
  have sqt : ∀ {a : Addr} {xs : List V}, SqT [] Hs a xs → SqT K H a xs := fun hs => .inl (rd_up sub (dp_rt hs))
  -- one list of ints
  have hints : ∀ {v : V} {l : List D} {ns : List Int}, Dp [] Hs v (.list l) → intsD l = some ns → ∃ a, v = .ref a ∧ SqL K H a (ns.map V.int) := fun {v l ns} hd hn => by
    cases hd with
    | lst hs ha =>
      obtain ⟨e1, _⟩ := dps_ints ha hn
      subst e1
      exact ⟨_, rfl, sq hs⟩
  have bls : ∀ {v : V} {l : List D} {ns : List Bool}, Dp [] Hs v (.list l) → boolsD l = some ns → ∃ a, v = .ref a ∧ SqL K H a (ns.map V.bl) := fun {v l ns} hd hn => by
    cases hd with
    | lst hs ha =>
      have e1 := dps_bools ha hn
      subst e1
      exact ⟨_, rfl, sq hs⟩
  cases f with
  | len =>
    match ds, h with
    | [.list l], h =>
      obtain ⟨v, rfl, hd⟩ := dps1 hv
      cases h
      cases hd with
      | lst hs ha => exact .inl ⟨_, _, rfl, .inl (sq hs), by rw [dps_len ha]; exact q1 _ (.int _)⟩
    | [.tuple l], h =>
      obtain ⟨v, rfl, hd⟩ := dps1 hv
      cases h
      cases hd with
      | tup hs ha => exact .inl ⟨_, _, rfl, .inr (sqt hs), by rw [dps_len ha]; exact q1 _ (.int _)⟩
    | [.str x], h =>
      obtain ⟨v, rfl, hd⟩ := dps1 hv
      simp only [bltD] at h
      split at h
      · rename_i hl
        cases h
        cases hd
        exact .inr ⟨x, rfl, by rw [← line_eq]; exact hl, q1 _ (.int _)⟩
      · cases h
  | abs =>
    match ds, h with
    | [.int i], h =>
      obtain ⟨v, rfl, hd⟩ := dps1 hv
      cases h
      cases hd
      exact ⟨i, rfl, q1 _ (.int _)⟩
  | sum =>
    match ds, h with
    | [.list l], h =>
      obtain ⟨v, rfl, hd⟩ := dps1 hv
      simp only [bltD, Option.map_eq_some_iff] at h
      obtain ⟨ns, hn, e⟩ := h
      subst e
      obtain ⟨a, rfl, hs⟩ := hints hd hn
      exact ⟨a, ns, rfl, hs, q1 _ (.int _)⟩
  | max =>
    match ds, h with
    | [.int i, .int j], h =>
      obtain ⟨v, u, rfl, hd, he⟩ := dps2 hv
      cases h
      cases hd
      cases he
      exact .inl ⟨i, j, rfl, q1 _ (.int _)⟩
    | [.list l], h =>
      obtain ⟨v, rfl, hd⟩ := dps1 hv
      cases hn : intsD l with
      | none => simp only [bltD, hn] at h; cases h
      | some ns =>
        cases ns with
        | nil => simp only [bltD, hn] at h; cases h
        | cons n r =>
          simp only [bltD, hn] at h
          cases h
          obtain ⟨a, rfl, hs⟩ := hints hd hn
          obtain ⟨m1, m2⟩ := maxL_mem (ns := n :: r) (by simp)
          refine .inr ⟨a, n :: r, rfl, hs, by simp, fun m hm hle => ?_⟩
          have e : m = maxL (n :: r) := Int.le_antisymm (m2 m hm) (hle _ m1)
          rw [e]
          exact q1 _ (.int _)
  | min =>
    match ds, h with
    | [.int i, .int j], h =>
      obtain ⟨v, u, rfl, hd, he⟩ := dps2 hv
      cases h
      cases hd
      cases he
      exact .inl ⟨i, j, rfl, q1 _ (.int _)⟩
    | [.list l], h =>
      obtain ⟨v, rfl, hd⟩ := dps1 hv
      cases hn : intsD l with
      | none => simp only [bltD, hn] at h; cases h
      | some ns =>
        cases ns with
        | nil => simp only [bltD, hn] at h; cases h
        | cons n r =>
          simp only [bltD, hn] at h
          cases h
          obtain ⟨a, rfl, hs⟩ := hints hd hn
          obtain ⟨m1, m2⟩ := minL_mem (ns := n :: r) (by simp)
          refine .inr ⟨a, n :: r, rfl, hs, by simp, fun m hm hle => ?_⟩
          have e : m = minL (n :: r) := Int.le_antisymm (hle _ m1) (m2 m hm)
          rw [e]
          exact q1 _ (.int _)
  | sorted =>
    match ds, h with
    | [.list l], h =>
      obtain ⟨v, rfl, hd⟩ := dps1 hv
      simp only [bltD, Option.map_eq_some_iff] at h
      obtain ⟨ns, hn, e⟩ := h
      subst e
      obtain ⟨a, rfl, hs⟩ := hints hd hn
      refine ⟨a, ns, rfl, hs, fun ns' p hp ho hf => ?_⟩
      rw [sortL_is hp ho]
      exact q2 _ _ rfl (dps_of_ints _) p hf
  | list =>
    match ds, h with
    | [.list l], h =>
      obtain ⟨v, rfl, hd⟩ := dps1 hv
      cases h
      cases hd with
      | lst hs ha => exact ⟨_, _, rfl, .inl (sq hs), fun p hp => q2 _ _ rfl ha p hp⟩
    | [.tuple l], h =>
      obtain ⟨v, rfl, hd⟩ := dps1 hv
      cases h
      cases hd with
      | tup hs ha => exact ⟨_, _, rfl, .inr (sqt hs), fun p hp => q2 _ _ rfl ha p hp⟩
  | tuple =>
    match ds, h with
    | [.list l], h =>
      obtain ⟨v, rfl, hd⟩ := dps1 hv
      cases h
      cases hd with
      | lst hs ha => exact ⟨_, _, rfl, .inl ⟨sq hs, fun p hp => q3 _ _ rfl ha p hp⟩⟩
    | [.tuple l], h =>
      obtain ⟨v, rfl, hd⟩ := dps1 hv
      cases h
      cases hd with
      | tup hs ha => exact ⟨_, _, rfl, .inr ⟨sqt hs, q1 _ (.tup hs ha)⟩⟩
  | int =>
    match ds, h with
    | [.int i], h =>
      obtain ⟨v, rfl, hd⟩ := dps1 hv
      cases h
      cases hd
      exact .inl ⟨i, rfl, q1 _ (.int _)⟩
    | [.bool i], h =>
      obtain ⟨v, rfl, hd⟩ := dps1 hv
      cases h
      cases hd
      exact .inr ⟨i, rfl, q1 _ (.int _)⟩
  | all =>
    match ds, h with
    | [.list l], h =>
      obtain ⟨v, rfl, hd⟩ := dps1 hv
      simp only [bltD, Option.map_eq_some_iff] at h
      obtain ⟨ns, hn, e⟩ := h
      subst e
      obtain ⟨a, rfl, hs⟩ := bls hd hn
      exact ⟨a, ns, rfl, hs, q1 _ (.bl _)⟩
  | any =>
    match ds, h with
    | [.list l], h =>
      obtain ⟨v, rfl, hd⟩ := dps1 hv
      simp only [bltD, Option.map_eq_some_iff] at h
      obtain ⟨ns, hn, e⟩ := h
      subst e
      obtain ⟨a, rfl, hs⟩ := bls hd hn
      exact ⟨a, ns, rfl, hs, q1 _ (.bl _)⟩
  | _ => cases hf
end Sm

set_option Elab.async false
set_option linter.all false
set_option maxRecDepth 100000
set_option maxHeartbeats 4000000
namespace Sm
open PySem PySem.Spec PyProof.Rows L2
def plainB : Expr → Bool
  | .UnaryOp .Not _ _ => false | .BoolOp _ _ _ => false | .IfExp _ _ _ _ => false | .Compare _ _ _ _ => false | _ => true
theorem isTrue_pl {e : Expr} {env : Env} {whole : Sem Value} (h : plainB e = true) : isTrue e env whole = (do let v ← whole; standAt e.pos; holding [v] (truthy v)) := by
  cases e <;> first
    | rfl
    | exact Bool.noConfusion h
    | (rename_i op a p; cases op <;> first | rfl | exact Bool.noConfusion h)
section
variable {E : En} {N : List Str} {sc s0 : Scope} {c a b : C}
/-- the fields that a plain expression's term has -/
theorem mkSnd (hA : ∀ st, evA c st = none) (hI : ∀ st, evI c st = none) (hW : ∀ sc op vs p, chkC N c sc (.BoolOp op vs p) = false) (hp : ∀ sc e, chkC N c sc e = true → plainB e = true)
    (hC : ∀ (sc s0 : Scope) (e : Expr), chkC N c sc e = true → ∀ st st' d, evC c st = some (d, st') → ∀ σ H Hs, SI E.K st σ H Hs → ∀ Q, Aft E.K (pureC c) st σ H Hs st' d Q → wE E N sc s0 e σ H Q)
    (hF : freshC c = true → ∀ (sc s0 : Scope) (e : Expr), chkC N c sc e = true → ∀ st st' ds, evC c st = some (.list ds, st') → ∀ σ H Hs, SI E.K st σ H Hs → ∀ Q, AftF E.K (pureC c) st σ H Hs st' ds Q → wE E N sc s0 e σ H Q) : Snd E N c where
  C := hC
  F := hF
  T := fun sc s0 e he st st' b hb σ H Hs I Q k => upT (fun X g => pt_val g.pe (fun _ => isTrue_pl (hp sc e he))) (show wE E N sc s0 e σ H (fun x H1 => ∃ c, x = .bl c ∧ Q c H1) from
    hC sc s0 e he st st' _ hb σ H Hs I _ fun v H' Hs' I' g d => by cases d; exact ⟨b, rfl, k H' Hs' I' g⟩)
  W := fun sc s0 op vs p h => absurd h (by rw [hW]; decide)
  A := fun sc s0 es h st st' ds h2 => absurd h2 (by rw [hA]; simp)
  I := fun sc s0 e tg h _ st st' ds h2 => absurd h2 (by rw [hI]; simp)
theorem noF (h : freshC c = false) : freshC c = true → ∀ (sc s0 : Scope) (e : Expr), chkC N c sc e = true → ∀ st st' ds, evC c st = some (.list ds, st') → ∀ σ H Hs, SI E.K st σ H Hs → ∀ Q, AftF E.K (pureC c) st σ H Hs st' ds Q → wE E N sc s0 e σ H Q :=
  fun z => by rw [h] at z; cases z
/-- .. from the one that a new list is made -/
theorem mkSndF (hA : ∀ st, evA c st = none) (hI : ∀ st, evI c st = none) (hW : ∀ sc op vs p, chkC N c sc (.BoolOp op vs p) = false) (hp : ∀ sc e, chkC N c sc e = true → plainB e = true)
    (hl : ∀ st st' d, evC c st = some (d, st') → ∃ ds, d = .list ds)
    (hF : ∀ (sc s0 : Scope) (e : Expr), chkC N c sc e = true → ∀ st st' ds, evC c st = some (.list ds, st') → ∀ σ H Hs, SI E.K st σ H Hs → ∀ Q, AftF E.K (pureC c) st σ H Hs st' ds Q → wE E N sc s0 e σ H Q) : Snd E N c :=
  mkSnd hA hI hW hp (fun sc s0 e he st st' d hd σ H Hs I Q k => by
    obtain ⟨ds, rfl⟩ := hl st st' d hd
    exact hF sc s0 e he st st' ds hd σ H Hs I Q (aft_of_F k)) fun _ => hF

theorem snd_var (i : Nat) : Snd E N (.var i) := by
  refine mkSnd (fun _ => rfl) (fun _ => rfl) (fun _ _ _ _ => rfl) (fun sc e h => ?_) (fun sc s0 e h st st' d hd σ H Hs I Q k => ?_) (noF rfl)
  · cases e <;> first | rfl | exact Bool.noConfusion h
  · refine up (fun X g => g.nm h) ?_
    simp only [evC] at hd
    split at hd
    · rename_i d' hs
      cases hd
      obtain ⟨v, h1, h2⟩ := I.sh i _ hs
      exact ⟨v, h1, k v H Hs I .refl h2⟩
    · rename_i ds hs
      cases hd
      obtain ⟨a, xs, Hs', h1, I', g, h2, h3⟩ := si_move (p := true) I hs
      exact ⟨_, h1, k _ H Hs' I' (g.weak fun _ => rfl) (.lst (.inl (.inl h2)) h3)⟩
    · cases hd
theorem snd_lit (d : D) : Snd E N (.lit d) := by
  refine mkSnd (fun _ => rfl) (fun _ => rfl) (fun _ _ _ _ => rfl) (fun sc e h => ?_) (fun sc s0 e h st st' d' hd σ H Hs I Q k => ?_) (noF rfl)
  · cases e <;> first | rfl | exact Bool.noConfusion h
  · cases hd
    cases e <;> first | exact Bool.noConfusion h | skip
    rename_i c kk p
    cases d with
    | int i =>
      cases c with
      | int j =>
        have e : i = j := of_decide_eq_true h
        subst e
        exact up (fun X g => pe_int) (k _ H Hs I .refl (.int i))
      | _ => cases h
    | bool i =>
      cases c with
      | bool j =>
        have e : i = j := of_decide_eq_true h
        subst e
        exact up (fun X g => pe_bl) (k _ H Hs I .refl (.bl i))
      | _ => cases h
    | none =>
      cases c with
      | none => exact up (fun X g => pe_non) (k _ H Hs I .refl .non)
      | _ => cases h
    | str i =>
      cases c with
      | str j =>
        have e : i = j := of_decide_eq_true h
        subst e
        exact up (fun X g => pe_str) (k _ H Hs I .refl (.str i))
      | _ => cases h
    | _ => cases c <;> cases h
theorem snd_glob (x : Str) (d : D) (ok : okV E x d) : Snd E N (.glob x d) := by
  refine mkSnd (fun _ => rfl) (fun _ => rfl) (fun _ _ _ _ => rfl) (fun sc e h => ?_) (fun sc s0 e h st st' d' hd σ H Hs I Q k => ?_) (noF rfl)
  · cases e <;> first | rfl | exact Bool.noConfusion h
  · cases hd
    cases e <;> first | exact Bool.noConfusion h | skip
    rename_i y p
    simp only [chkC, Bool.and_eq_true, decide_eq_true_eq] at h
    obtain ⟨⟨h1, h2⟩, h3⟩ := h
    subst h1
    obtain ⟨v, u, m, r, dv, f⟩ := ok
    exact up (fun X g => pe_glob (g.gl h2) (by rw [g.emg]; exact m) r (ok_debug h3)) (k _ H Hs I .refl (flat_any f dv))
theorem snd_bin (o : BO) (a b : C) (ha : Snd E N a) (hb : Snd E N b) : Snd E N (.bin o a b) := by
  have core : ∀ (sc s0 : Scope) (e : Expr), chkC N (.bin o a b) sc e = true → ∀ st st' d, evC (.bin o a b) st = some (d, st') → ∀ σ H Hs, SI E.K st σ H Hs → ∀ Q : VK,
      (∀ H1 Hs1, SI E.K st' σ H1 Hs1 → Go (pureC a && pureC b) st σ H Hs st' σ H1 Hs1 → (flatD d = true → ∀ v, Dp [] Hs1 v d → Q v H1) ∧ ∀ zs ds, d = .list ds → DpAll [] Hs1 zs ds → ∀ p, H1 p = none → Q (.ref p) (upd H1 p (.lst zs))) →
      wE E N sc s0 e σ H Q := by
    intro sc s0 e h st st' d hd σ H Hs I Q k
    cases e <;> first | exact Bool.noConfusion h | skip
    rename_i ea op eb p
    simp only [chkC, Bool.and_eq_true] at h
    obtain ⟨⟨h0, h1⟩, h2⟩ := h
    simp only [evC, Option.bind_eq_some_iff, Option.map_eq_some_iff] at hd
    obtain ⟨⟨da, st1⟩, e1, ⟨db, st2⟩, e2, dd, e3, e4⟩ := hd
    cases e4
    refine up (fun X g => pe_op (bin_rule h0) g.pe g.pe) ?_
    refine ha.C sc s0 ea h1 st st1 da e1 σ H Hs I _ fun v H1 Hs1 I1 g1 d1 => ?_
    refine hb.C sc s0 eb h2 st1 _ db e2 σ H1 Hs1 I1 _ fun u H2 Hs2 I2 g2 d2 => ?_
    obtain ⟨k1, k2⟩ := k H2 Hs2 I2 (g1.trans g2)
    exact bin_val e3 I2.sub (g2.dp d1) d2 k1 k2
  refine mkSnd (fun _ => rfl) (fun _ => rfl) (fun _ _ _ _ => rfl) (fun sc e h => ?_) (fun sc s0 e h st st' d hd σ H Hs I Q k => ?_) (fun _ sc s0 e h st st' ds hd σ H Hs I Q k => ?_)
  · cases e <;> first | rfl | exact Bool.noConfusion h
  · exact core sc s0 e h st st' d hd σ H Hs I Q fun H1 Hs1 I1 g1 => ⟨fun _ v dv => k v H1 Hs1 I1 g1 dv, fun zs ds e hz p hp => aft_list I1 g1 hz (e ▸ k) p hp⟩
  · exact core sc s0 e h st st' _ hd σ H Hs I Q fun H1 Hs1 I1 g1 => ⟨fun f => Bool.noConfusion f, fun zs es e hz p hp => by
      cases e
      exact aftF_list I1 g1 hz k p hp⟩
theorem snd_neg (a : C) (ha : Snd E N a) : Snd E N (.neg a) := by
  refine mkSnd (fun _ => rfl) (fun _ => rfl) (fun _ _ _ _ => rfl) (fun sc e h => ?_) (fun sc s0 e h st st' d' hd σ H Hs I Q k => ?_) (noF rfl)
  · cases e <;> first | rfl | exact Bool.noConfusion h | skip
    rename_i op x p
    cases op <;> first | rfl | exact Bool.noConfusion h
  · cases e <;> first | exact Bool.noConfusion h | skip
    rename_i op ea p
    cases op <;> first | exact Bool.noConfusion h | skip
    simp only [evC, Option.bind_eq_some_iff] at hd
    obtain ⟨⟨da, st1⟩, e1, e2⟩ := hd
    refine up (fun X g => pe_un un_neg g.pe) ?_
    refine ha.C sc s0 ea h st st1 da e1 σ H Hs I _ fun v H1 Hs1 I1 g1 d1 => ?_
    cases da with
    | int i => cases e2; cases d1; exact ⟨i, rfl, k _ H1 Hs1 I1 g1 (.int _)⟩
    | _ => cases e2
theorem snd_not (a : C) (ha : Snd E N a) : Snd E N (.not a) := by
  have core : ∀ (sc s0 : Scope) (e : Expr), chkC N (.not a) sc e = true → ∀ st st' b, evC (.not a) st = some (.bool b, st') → ∀ σ H Hs, SI E.K st σ H Hs → ∀ Q, AftT E.K (pureC a) st σ H Hs st' b Q → wT E N sc s0 e σ H Q := by
    intro sc s0 e h st st' b hd σ H Hs I Q k
    cases e <;> first | exact Bool.noConfusion h | skip
    rename_i op ea p
    cases op <;> first | exact Bool.noConfusion h | skip
    simp only [evC, Option.bind_eq_some_iff] at hd
    obtain ⟨⟨da, st1⟩, e1, e2⟩ := hd
    cases da with
    | bool i => cases e2; exact upT (fun X g => pt_not g.pt) (ha.T sc s0 ea h st _ i e1 σ H Hs I _ fun H1 Hs1 I1 g1 => k H1 Hs1 I1 g1)
    | _ => cases e2
  refine ⟨fun sc s0 e h st st' d hd σ H Hs I Q k => ?_, noF rfl, core, fun sc s0 op vs p h => Bool.noConfusion h, fun sc s0 es h st st' ds h2 => absurd (show (none : Option (List D × DS)) = _ from h2) (by simp), fun sc s0 e tg h _ st st' ds h2 => absurd (show (none : Option (List D × DS)) = _ from h2) (by simp)⟩
  cases e <;> first | exact Bool.noConfusion h | skip
  rename_i op ea p
  cases op <;> first | exact Bool.noConfusion h | skip
  simp only [evC, Option.bind_eq_some_iff] at hd
  obtain ⟨⟨da, st1⟩, e1, e2⟩ := hd
  refine up (fun X g => pe_not g.pe) ?_
  refine ha.C sc s0 ea h st st1 da e1 σ H Hs I _ fun v H1 Hs1 I1 g1 d1 => ?_
  cases da with
  | bool i => cases e2; cases d1; exact ⟨i, rfl, k _ H1 Hs1 I1 g1 (.bl _)⟩
  | _ => cases e2
theorem noA_of (h : ∀ st, evA c st = none) : ∀ (sc s0 : Scope) (es : List Expr), chkA N c sc es = true → ∀ st st' ds, evA c st = some (ds, st') → ∀ σ H Hs, SI E.K st σ H Hs → ∀ Q, AftA E.K (pureC c) st σ H Hs st' ds Q → wA E N sc s0 es σ H Q :=
  fun sc s0 es _ st st' ds h2 => absurd h2 (by rw [h]; simp)
theorem noI_of (h : ∀ st, evI c st = none) : ∀ (sc s0 : Scope) (e tg : Expr), chkI N c sc e = true → tgOk c tg = true → ∀ st st' ds, evI c st = some (ds, st') → ∀ σ H Hs, SI E.K st σ H Hs → ∀ R, AftI E.K (pureC c) st σ H Hs st' ds R → wI E N sc s0 tg e σ H R :=
  fun sc s0 e tg _ _ st st' ds h2 => absurd h2 (by rw [h]; simp)
theorem noW_of (h : ∀ sc op vs p, chkC N c sc (.BoolOp op vs p) = false) : ∀ (sc s0 : Scope) (op : BoolOp) (vs : List Expr) (p : Pos), chkC N c sc (.BoolOp op vs p) = true → ∀ st st' b, evC c st = some (.bool b, st') → ∀ σ H Hs, SI E.K st σ H Hs → ∀ Q, AftT E.K (pureC c) st σ H Hs st' b Q → wW E N sc s0 (.BoolOp op vs p) σ H Q :=
  fun sc s0 op vs p z => absurd z (by rw [h]; decide)
theorem inv_cmp {o : CO} {sc : Scope} {e : Expr} (h : chkC N (.cmp o a b) sc e = true) : ∃ ea op eb p, e = .Compare ea [op] [eb] p ∧ coB o op = true ∧ isSet eb = false ∧ chkC N a sc ea = true ∧ chkC N b sc eb = true := by
  cases e <;> first | exact Bool.noConfusion h | skip
  rename_i ea ops es p
  match ops, es, h with
  | [op], [eb], h =>
    simp only [chkC, Bool.and_eq_true, Bool.not_eq_true'] at h
    exact ⟨ea, op, eb, p, rfl, h.1.1.1, h.1.1.2, h.1.2, h.2⟩
theorem snd_cmp (o : CO) (a b : C) (ha : Snd E N a) (hb : Snd E N b) : Snd E N (.cmp o a b) := by
  refine ⟨fun sc s0 e h st st' d hd σ H Hs I Q k => ?_, noF rfl, fun sc s0 e h st st' d hd σ H Hs I Q k => ?_, noW_of fun _ _ _ _ => rfl, noA_of fun _ => rfl, noI_of fun _ => rfl⟩
  · obtain ⟨ea, op, eb, p, rfl, h0, hs, h1, h2⟩ := inv_cmp h
    simp only [evC, Option.bind_eq_some_iff, Option.map_eq_some_iff] at hd
    obtain ⟨⟨da, st1⟩, e1, ⟨db, st2⟩, e2, dd, e3, e4⟩ := hd
    cases e4
    refine up (fun X g => pe_cmpR (cmp_rule h0 g) g.pe g.pe (mark_no (o := o) hs)) ?_
    refine ha.C sc s0 ea h1 st st1 da e1 σ H Hs I _ fun v H1 Hs1 I1 g1 d1 => ?_
    refine hb.C sc s0 eb h2 st1 _ db e2 σ H1 Hs1 I1 _ fun u H2 Hs2 I2 g2 d2 => ?_
    exact cmp_val e3 I2.sub (g2.dp d1) d2 (k _ H2 Hs2 I2 (g1.trans g2) (.bl _))
  · obtain ⟨ea, op, eb, p, rfl, h0, hs, h1, h2⟩ := inv_cmp h
    simp only [evC, Option.bind_eq_some_iff, Option.map_eq_some_iff] at hd
    obtain ⟨⟨da, st1⟩, e1, ⟨db, st2⟩, e2, dd, e3, e4⟩ := hd
    cases e4
    refine upT (fun X g => pt_cmpR (cmp_rule h0 g) g.pe g.pe (mark_no (o := o) hs)) ?_
    refine ha.C sc s0 ea h1 st st1 da e1 σ H Hs I _ fun v H1 Hs1 I1 g1 d1 => ?_
    refine hb.C sc s0 eb h2 st1 _ db e2 σ H1 Hs1 I1 _ fun u H2 Hs2 I2 g2 d2 => ?_
    exact cmp_val e3 I2.sub (g2.dp d1) d2 ⟨_, rfl, k H2 Hs2 I2 (g1.trans g2)⟩
theorem inv_ch2 {o p : CO} {c : C} {sc : Scope} {e : Expr} (h : chkC N (.ch2 o p a b c) sc e = true) : ∃ ea op op2 eb ec q, e = .Compare ea [op, op2] [eb, ec] q ∧ coB o op = true ∧ coB p op2 = true ∧ isSet eb = false ∧ isSet ec = false ∧ chkC N a sc ea = true ∧ chkC N b sc eb = true ∧ chkC N c sc ec = true := by
  cases e <;> first | exact Bool.noConfusion h | skip
  rename_i ea ops es p
  match ops, es, h with
  | [op, op2], [eb, ec], h =>
    simp only [chkC, Bool.and_eq_true, Bool.not_eq_true'] at h
    exact ⟨ea, op, op2, eb, ec, p, rfl, h.1.1.1.1.1.1, h.1.1.1.1.1.2, h.1.1.1.1.2, h.1.1.1.2, h.1.1.2, h.1.2, h.2⟩
theorem snd_ch2 (o p : CO) (a b c : C) (ha : Snd E N a) (hb : Snd E N b) (hc : Snd E N c) : Snd E N (.ch2 o p a b c) := by
  have core : ∀ (sc s0 : Scope) (e : Expr) (ea : Expr) (op op2 : CmpOp) (eb ec : Expr) (q : Pos), chkC N a sc ea = true → chkC N b sc eb = true → chkC N c sc ec = true → ∀ st st' d, evC (.ch2 o p a b c) st = some (d, st') → ∀ σ H Hs, SI E.K st σ H Hs → ∀ Q : VK,
      (∀ H1 Hs1 r, SI E.K st' σ H1 Hs1 → Go (pureC a && pureC b && pureC c) st σ H Hs st' σ H1 Hs1 → d = .bool r → Q (.bl r) H1) → tChain (rCmp E.K o) (rCmp E.K p) (wE E N sc s0 ea) (wE E N sc s0 eb) (wE E N sc s0 ec) σ H Q := by
    intro sc s0 e ea op op2 eb ec q h1 h2 h3 st st' d hd σ H Hs I Q k
    simp only [evC, Option.bind_eq_some_iff] at hd
    obtain ⟨⟨da, st1⟩, e1, ⟨db, st2⟩, e2, r, e3, e4⟩ := hd
    refine ha.C sc s0 ea h1 st st1 da e1 σ H Hs I _ fun v H1 Hs1 I1 g1 d1 => ?_
    refine hb.C sc s0 eb h2 st1 _ db e2 σ H1 Hs1 I1 _ fun u H2 Hs2 I2 g2 d2 => ?_
    refine cmp_val e3 I2.sub (g2.dp d1) d2 ⟨_, rfl, ?_⟩
    cases r with
    | false =>
      cases e4
      rw [if_neg Bool.false_ne_true]
      exact k H2 Hs2 false I2 ((g1.trans g2).weak fun z => by simp only [Bool.and_eq_true] at z ⊢; exact z.1) rfl
    | true =>
      rw [if_pos rfl]
      simp only [if_true, Option.bind_eq_some_iff, Option.map_eq_some_iff] at e4
      obtain ⟨⟨dc, st3⟩, e5, r2, e6, e7⟩ := e4
      cases e7
      refine hc.C sc s0 ec h3 st2 _ dc e5 σ H2 Hs2 I2 _ fun w H3 Hs3 I3 g3 d3 => ?_
      exact cmp_val e6 I3.sub (g3.dp d2) d3 (k H3 Hs3 r2 I3 ((g1.trans g2).trans g3) rfl)
  refine ⟨fun sc s0 e h st st' d hd σ H Hs I Q k => ?_, noF rfl, fun sc s0 e h st st' d hd σ H Hs I Q k => ?_, noW_of fun _ _ _ _ => rfl, noA_of fun _ => rfl, noI_of fun _ => rfl⟩
  · obtain ⟨ea, op, op2, eb, ec, q, rfl, h0, h0', s1, s2, h1, h2, h3⟩ := inv_ch2 h
    refine up (fun X g => pe_chain (cmp_rule h0 g) (cmp_rule h0' g) g.pe g.pe g.pe (by show behindInMarks op2 ec = false; exact mark_no (o := o) s2)) ?_
    exact core sc s0 ea ea op op2 eb ec q h1 h2 h3 st st' d hd σ H Hs I _ fun H1 Hs1 r I1 g1 e => k _ H1 Hs1 I1 g1 (e ▸ .bl r)
  · obtain ⟨ea, op, op2, eb, ec, q, rfl, h0, h0', s1, s2, h1, h2, h3⟩ := inv_ch2 h
    refine upT (fun X g => pt_chain (cmp_rule h0 g) (cmp_rule h0' g) g.pe g.pe g.pe (by show behindInMarks op2 ec = false; exact mark_no (o := o) s2)) ?_
    exact core sc s0 ea ea op op2 eb ec q h1 h2 h3 st st' _ hd σ H Hs I _ fun H1 Hs1 r I1 g1 e => ⟨r, rfl, by cases e; exact k H1 Hs1 I1 g1⟩
end
end Sm

set_option Elab.async false
set_option linter.all false
set_option maxRecDepth 100000
set_option maxHeartbeats 4000000
namespace Sm
open PySem PySem.Spec PyProof.Rows L2
section
variable {X : Cx} {a b c d : Expr} {ta tb tc td : TE} {pos : Pos}
def tChain3 (r1 r2 r3 : R2) (ta tb tc td : TE) : TE := fun σ H Q => ta σ H fun x H1 => tb σ H1 fun y H2 => r1 x y H2 fun z H3 => ∃ k, z = .bl k ∧
  (if k = true then tc σ H3 fun w H4 => r2 y w H4 fun z2 H5 => ∃ k2, z2 = .bl k2 ∧ (if k2 = true then td σ H5 fun u H6 => r3 w u H6 Q else Q (.bl false) H5) else Q (.bl false) H3)
theorem pe_chain3 {o1 o2 o3 : CmpOp} {r1 r2 r3 : R2} (h1 : OpR X (compareOp o1) r1) (h2 : OpR X (compareOp o2) r2) (h3 : OpR X (compareOp o3) r3) (ha : PE X a ta) (hb : PE X b tb) (hc : PE X c tc) (hd : PE X d td)
    (hm : lastMarks [o1, o2, o3] [b, c, d] = false) : PE X (.Compare a [o1, o2, o3] [b, c, d] pos) (tChain3 r1 r2 r3 ta tb tc td) := by
  refine ⟨fun pins s σ H Q I h => ?_⟩
  refine Compare_chain (thn (ha.run pins s σ H _ I h) fun v s1 ⟨x, H1, I1, q1, k1⟩ => chain_link (thn (hb.run pins s1 σ H1 _ I1 k1) fun u s2 ⟨y, H2, I2, q2, k2⟩ =>
    thn (h1 pins s2 σ H2 x y v u _ I2 q1 q2 k2) fun w s3 ⟨z, H3, I3, q3, k, e, k3⟩ => ?_)) hm
  subst e
  cases q3
  refine wpAny_truthy_bool ?_
  cases k with
  | false => exact ite_ff ⟨.bl false, H3, I3, rfl, k3⟩
  | true =>
    refine ite_tt (chain_link (thn (hc.run pins s3 σ H3 _ I3 k3) fun w' s4 ⟨z', H4, I4, q4, k4⟩ => thn (h2 pins s4 σ H4 y z' u w' _ I4 q2 q4 k4) fun d' s5 ⟨z2, H5, I5, q5, kk, e2, k5⟩ => ?_))
    subst e2
    cases q5
    refine wpAny_truthy_bool ?_
    cases kk with
    | false => exact ite_ff ⟨.bl false, H5, I5, rfl, k5⟩
    | true => exact ite_tt (chain_last (thn (hd.run pins s5 σ H5 _ I5 k5) fun u' s6 ⟨y6, H6, I6, q6, k6⟩ => h3 pins s6 σ H6 z' y6 w' u' Q I6 q4 q6 k6))
theorem pt_chain3 {o1 o2 o3 : CmpOp} {r1 r2 r3 : R2} (h1 : OpR X (compareOp o1) r1) (h2 : OpR X (compareOp o2) r2) (h3 : OpR X (compareOp o3) r3) (ha : PE X a ta) (hb : PE X b tb) (hc : PE X c tc) (hd : PE X d td)
    (hm : lastMarks [o1, o2, o3] [b, c, d] = false) : PT X (.Compare a [o1, o2, o3] [b, c, d] pos) (tTest (tChain3 r1 r2 r3 ta tb tc td)) := by
  refine ⟨fun pins s σ H Q I h => ?_⟩
  refine isTrue_chain (thn (ha.run pins s σ H _ I h) fun v s1 ⟨x, H1, I1, q1, k1⟩ => test_link (thn (hb.run pins s1 σ H1 _ I1 k1) fun u s2 ⟨y, H2, I2, q2, k2⟩ =>
    thn (h1 pins s2 σ H2 x y v u _ I2 q1 q2 k2) fun w s3 ⟨z, H3, I3, q3, k, e, k3⟩ => ?_)) hm
  subst e
  cases q3
  refine wpAny_truthy_bool ?_
  cases k with
  | false =>
    obtain ⟨k', e', q'⟩ := k3
    cases e'
    exact ite_ff ⟨H3, I3, q'⟩
  | true =>
    refine ite_tt (test_link (thn (hc.run pins s3 σ H3 _ I3 k3) fun w' s4 ⟨z', H4, I4, q4, k4⟩ => thn (h2 pins s4 σ H4 y z' u w' _ I4 q2 q4 k4) fun d' s5 ⟨z2, H5, I5, q5, kk, e2, k5⟩ => ?_))
    subst e2
    cases q5
    refine wpAny_truthy_bool ?_
    cases kk with
    | false =>
      obtain ⟨k', e', q'⟩ := k5
      cases e'
      exact ite_ff ⟨H5, I5, q'⟩
    | true =>
      refine ite_tt (test_last (thn (hd.run pins s5 σ H5 _ I5 k5) fun u' s6 ⟨y6, H6, I6, q6, k6⟩ => thn (h3 pins s6 σ H6 z' y6 w' u' _ I6 q4 q6 k6) fun d2 s7 ⟨z7, H7, I7, q7, kz, ez, k7⟩ => ?_))
      subst ez
      cases q7
      exact wpAny_truthy_bool ⟨H7, I7, k7⟩
end
section
variable {E : En} {N : List Str} {sc s0 : Scope} {c a b d : C}
theorem inv_ch3 {o p r : CO} {sc : Scope} {e : Expr} (h : chkC N (.ch3 o p r a b c d) sc e = true) : ∃ ea op op2 op3 eb ec ed q, e = .Compare ea [op, op2, op3] [eb, ec, ed] q ∧ coB o op = true ∧ coB p op2 = true ∧ coB r op3 = true ∧ isSet ed = false ∧
    chkC N a sc ea = true ∧ chkC N b sc eb = true ∧ chkC N c sc ec = true ∧ chkC N d sc ed = true := by
  cases e <;> first | exact Bool.noConfusion h | skip
  rename_i ea ops es p
  match ops, es, h with
  | [op, op2, op3], [eb, ec, ed], h =>
    simp only [chkC, Bool.and_eq_true, Bool.not_eq_true'] at h
    obtain ⟨⟨⟨⟨⟨⟨⟨⟨⟨h1, h2⟩, h3⟩, h4⟩, h5⟩, h6⟩, h7⟩, h8⟩, h9⟩, h10⟩ := h
    exact ⟨ea, op, op2, op3, eb, ec, ed, p, rfl, h1, h2, h3, h6, h7, h8, h9, h10⟩
theorem snd_ch3 (o p r : CO) (a b c d : C) (ha : Snd E N a) (hb : Snd E N b) (hc : Snd E N c) (hd' : Snd E N d) : Snd E N (.ch3 o p r a b c d) := by
  have core : ∀ (sc s0 : Scope) (ea eb ec ed : Expr), chkC N a sc ea = true → chkC N b sc eb = true → chkC N c sc ec = true → chkC N d sc ed = true → ∀ st st' w, evC (.ch3 o p r a b c d) st = some (w, st') → ∀ σ H Hs, SI E.K st σ H Hs → ∀ Q : VK,
      (∀ H1 Hs1 k, SI E.K st' σ H1 Hs1 → Go (pureC a && pureC b && pureC c && pureC d) st σ H Hs st' σ H1 Hs1 → w = .bool k → Q (.bl k) H1) → tChain3 (rCmp E.K o) (rCmp E.K p) (rCmp E.K r) (wE E N sc s0 ea) (wE E N sc s0 eb) (wE E N sc s0 ec) (wE E N sc s0 ed) σ H Q := by
    intro sc s0 ea eb ec ed h1 h2 h3 h4 st st' w hd σ H Hs I Q k
    simp only [evC, Option.bind_eq_some_iff] at hd
    obtain ⟨⟨da, st1⟩, e1, ⟨db, st2⟩, e2, r1, e3, e4⟩ := hd
    refine ha.C sc s0 ea h1 st st1 da e1 σ H Hs I _ fun v H1 Hs1 I1 g1 d1 => ?_
    refine hb.C sc s0 eb h2 st1 _ db e2 σ H1 Hs1 I1 _ fun u H2 Hs2 I2 g2 d2 => ?_
    refine cmp_val e3 I2.sub (g2.dp d1) d2 ⟨_, rfl, ?_⟩
    cases r1 with
    | false =>
      cases e4
      rw [if_neg Bool.false_ne_true]
      exact k H2 Hs2 false I2 ((g1.trans g2).weak fun z => by simp only [Bool.and_eq_true] at z ⊢; exact z.1.1) rfl
    | true =>
      rw [if_pos rfl]
      simp only [if_true, Option.bind_eq_some_iff] at e4
      obtain ⟨⟨dc, st3⟩, e5, r2, e6, e7⟩ := e4
      refine hc.C sc s0 ec h3 st2 _ dc e5 σ H2 Hs2 I2 _ fun x H3 Hs3 I3 g3 d3 => ?_
      refine cmp_val e6 I3.sub (g3.dp d2) d3 ⟨_, rfl, ?_⟩
      cases r2 with
      | false =>
        cases e7
        rw [if_neg Bool.false_ne_true]
        exact k H3 Hs3 false I3 (((g1.trans g2).trans g3).weak fun z => by simp only [Bool.and_eq_true] at z ⊢; exact z.1) rfl
      | true =>
        rw [if_pos rfl]
        simp only [if_true, Option.bind_eq_some_iff, Option.map_eq_some_iff] at e7
        obtain ⟨⟨dd, st4⟩, e8, r3, e9, e10⟩ := e7
        cases e10
        refine hd'.C sc s0 ed h4 st3 _ dd e8 σ H3 Hs3 I3 _ fun y H4 Hs4 I4 g4 d4 => ?_
        exact cmp_val e9 I4.sub (g4.dp d3) d4 (k H4 Hs4 r3 I4 (((g1.trans g2).trans g3).trans g4) rfl)
  refine ⟨fun sc s0 e h st st' d hd σ H Hs I Q k => ?_, noF rfl, fun sc s0 e h st st' d hd σ H Hs I Q k => ?_, noW_of fun _ _ _ _ => rfl, noA_of fun _ => rfl, noI_of fun _ => rfl⟩
  · obtain ⟨ea, op, op2, op3, eb, ec, ed, q, rfl, h0, h0', h0'', s1, h1, h2, h3, h4⟩ := inv_ch3 h
    refine up (fun X g => pe_chain3 (cmp_rule h0 g) (cmp_rule h0' g) (cmp_rule h0'' g) g.pe g.pe g.pe g.pe (by show behindInMarks op3 ed = false; exact mark_no (o := o) s1)) ?_
    exact core sc s0 ea eb ec ed h1 h2 h3 h4 st st' d hd σ H Hs I _ fun H1 Hs1 r I1 g1 e => k _ H1 Hs1 I1 g1 (e ▸ .bl r)
  · obtain ⟨ea, op, op2, op3, eb, ec, ed, q, rfl, h0, h0', h0'', s1, h1, h2, h3, h4⟩ := inv_ch3 h
    refine upT (fun X g => pt_chain3 (cmp_rule h0 g) (cmp_rule h0' g) (cmp_rule h0'' g) g.pe g.pe g.pe g.pe (by show behindInMarks op3 ed = false; exact mark_no (o := o) s1)) ?_
    exact core sc s0 ea eb ec ed h1 h2 h3 h4 st st' _ hd σ H Hs I _ fun H1 Hs1 r I1 g1 e => ⟨r, rfl, by cases e; exact k H1 Hs1 I1 g1⟩
theorem inv_isN {sc : Scope} {e : Expr} (h : chkC N (.isN a) sc e = true) : ∃ ea j p q, e = .Compare ea [.Is] [.Constant .none j p] q ∧ chkC N a sc ea = true := by
  cases e <;> first | exact Bool.noConfusion h | skip
  rename_i ea ops es q
  match ops, es, h with
  | [.Is], [eb], h =>
    simp only [chkC, Bool.and_eq_true] at h
    obtain ⟨h1, h2⟩ := h
    cases eb <;> first | exact Bool.noConfusion h1 | skip
    rename_i c j p
    cases c <;> first | exact Bool.noConfusion h1 | skip
    exact ⟨ea, j, p, q, rfl, h2⟩
theorem inv_notN {sc : Scope} {e : Expr} (h : chkC N (.notN a) sc e = true) : ∃ ea j p q, e = .Compare ea [.IsNot] [.Constant .none j p] q ∧ chkC N a sc ea = true := by
  cases e <;> first | exact Bool.noConfusion h | skip
  rename_i ea ops es q
  match ops, es, h with
  | [.IsNot], [eb], h =>
    simp only [chkC, Bool.and_eq_true] at h
    obtain ⟨h1, h2⟩ := h
    cases eb <;> first | exact Bool.noConfusion h1 | skip
    rename_i c j p
    cases c <;> first | exact Bool.noConfusion h1 | skip
    exact ⟨ea, j, p, q, rfl, h2⟩
theorem snd_isN (a : C) (ha : Snd E N a) : Snd E N (.isN a) := by
  have fin : ∀ {H : Hp} {v : V} {d : D}, Dp [] H v d → decide (v = .non) = (match d with | .none => true | _ => false) := fun {H v d} h => by cases h <;> rfl
  refine ⟨fun sc s0 e h st st' d hd σ H Hs I Q k => ?_, noF rfl, fun sc s0 e h st st' d hd σ H Hs I Q k => ?_, noW_of fun _ _ _ _ => rfl, noA_of fun _ => rfl, noI_of fun _ => rfl⟩
  · obtain ⟨ea, j, p, q, rfl, h1⟩ := inv_isN h
    simp only [evC, Option.bind_eq_some_iff] at hd
    obtain ⟨⟨da, st1⟩, e1, e2⟩ := hd
    cases e2
    refine up (fun X g => pe_cmp (pc_isN g.pe) rfl) ?_
    refine ha.C sc s0 ea h1 st st1 da e1 σ H Hs I _ fun v H1 Hs1 I1 g1 d1 => ?_
    exact k _ H1 Hs1 I1 g1 (by rw [fin d1]; exact .bl _)
  · obtain ⟨ea, j, p, q, rfl, h1⟩ := inv_isN h
    simp only [evC, Option.bind_eq_some_iff] at hd
    obtain ⟨⟨da, st1⟩, e1, e2⟩ := hd
    cases e2
    refine upT (fun X g => pt_cmp (pc_isN g.pe) rfl) ?_
    refine ha.C sc s0 ea h1 st st1 da e1 σ H Hs I _ fun v H1 Hs1 I1 g1 d1 => ?_
    exact ⟨_, rfl, by rw [fin d1]; exact k H1 Hs1 I1 g1⟩
theorem snd_notN (a : C) (ha : Snd E N a) : Snd E N (.notN a) := by
  have fin : ∀ {H : Hp} {v : V} {d : D}, Dp [] H v d → (!decide (v = .non)) = (match d with | .none => false | _ => true) := fun {H v d} h => by cases h <;> rfl
  refine ⟨fun sc s0 e h st st' d hd σ H Hs I Q k => ?_, noF rfl, fun sc s0 e h st st' d hd σ H Hs I Q k => ?_, noW_of fun _ _ _ _ => rfl, noA_of fun _ => rfl, noI_of fun _ => rfl⟩
  · obtain ⟨ea, j, p, q, rfl, h1⟩ := inv_notN h
    simp only [evC, Option.bind_eq_some_iff] at hd
    obtain ⟨⟨da, st1⟩, e1, e2⟩ := hd
    cases e2
    refine up (fun X g => pe_cmp (pc_notN g.pe) rfl) ?_
    refine ha.C sc s0 ea h1 st st1 da e1 σ H Hs I _ fun v H1 Hs1 I1 g1 d1 => ?_
    exact k _ H1 Hs1 I1 g1 (by rw [fin d1]; exact .bl _)
  · obtain ⟨ea, j, p, q, rfl, h1⟩ := inv_notN h
    simp only [evC, Option.bind_eq_some_iff] at hd
    obtain ⟨⟨da, st1⟩, e1, e2⟩ := hd
    cases e2
    refine upT (fun X g => pt_cmp (pc_notN g.pe) rfl) ?_
    refine ha.C sc s0 ea h1 st st1 da e1 σ H Hs I _ fun v H1 Hs1 I1 g1 d1 => ?_
    exact ⟨_, rfl, by rw [fin d1]; exact k H1 Hs1 I1 g1⟩
theorem inv_and {sc : Scope} {e : Expr} (h : chkC N (.and a b) sc e = true) : ∃ ea eb r p, e = .BoolOp .And (ea :: eb :: r) p ∧ chkC N a sc ea = true ∧ ((r = [] ∧ chkC N b sc eb = true) ∨ chkC N b sc (.BoolOp .And (eb :: r) p) = true) := by
  cases e <;> first | exact Bool.noConfusion h | skip
  rename_i op es p
  cases op <;> first | exact Bool.noConfusion h | skip
  match es, h with
  | ea :: eb :: r, h =>
    simp only [chkC, Bool.and_eq_true] at h
    refine ⟨ea, eb, r, p, rfl, h.1, ?_⟩
    cases r with
    | nil => exact .inl ⟨rfl, h.2⟩
    | cons x y => exact .inr h.2
theorem inv_or {sc : Scope} {e : Expr} (h : chkC N (.or a b) sc e = true) : ∃ ea eb r p, e = .BoolOp .Or (ea :: eb :: r) p ∧ chkC N a sc ea = true ∧ ((r = [] ∧ chkC N b sc eb = true) ∨ chkC N b sc (.BoolOp .Or (eb :: r) p) = true) := by
  cases e <;> first | exact Bool.noConfusion h | skip
  rename_i op es p
  cases op <;> first | exact Bool.noConfusion h | skip
  match es, h with
  | ea :: eb :: r, h =>
    simp only [chkC, Bool.and_eq_true] at h
    refine ⟨ea, eb, r, p, rfl, h.1, ?_⟩
    cases r with
    | nil => exact .inl ⟨rfl, h.2⟩
    | cons x y => exact .inr h.2
theorem go_l {p q : Bool} {st st1 : DS} {σ σ1 : L2.St} {H Hs H1 Hs1 : Hp} (g : Go p st σ H Hs st1 σ1 H1 Hs1) : Go (p && q) st σ H Hs st1 σ1 H1 Hs1 := g.weak fun z => (Bool.and_eq_true_iff.mp z).1
theorem snd_and (a b : C) (ha : Snd E N a) (hb : Snd E N b) : Snd E N (.and a b) := by
  -- the rest of the row as a value, as a test
  have rE : ∀ {sc s0 : Scope} {eb : Expr} {r : List Expr} {p : Pos}, ((r = [] ∧ chkC N b sc eb = true) ∨ chkC N b sc (.BoolOp .And (eb :: r) p) = true) → ∀ st st' d, evC b st = some (d, st') → ∀ σ H Hs, SI E.K st σ H Hs → ∀ Q, Aft E.K (pureC b) st σ H Hs st' d Q → wE E N sc s0 (.BoolOp .And (eb :: r) p) σ H Q :=
    fun {sc s0 eb r p} h st st' d hd σ H Hs I Q k => by
      rcases h with ⟨rfl, h⟩ | h
      · exact up (fun X g => pe_one g.pe) (hb.C sc s0 eb h st st' d hd σ H Hs I Q k)
      · exact hb.C sc s0 _ h st st' d hd σ H Hs I Q k
  have rW : ∀ {sc s0 : Scope} {eb : Expr} {r : List Expr} {p : Pos}, ((r = [] ∧ chkC N b sc eb = true) ∨ chkC N b sc (.BoolOp .And (eb :: r) p) = true) → ∀ st st' d, evC b st = some (.bool d, st') → ∀ σ H Hs, SI E.K st σ H Hs → ∀ Q, AftT E.K (pureC b) st σ H Hs st' d Q → wW E N sc s0 (.BoolOp .And (eb :: r) p) σ H Q :=
    fun {sc s0 eb r p} h st st' d hd σ H Hs I Q k => by
      rcases h with ⟨rfl, h⟩ | h
      · exact upW (fun X g => pw_and1 g.pt) (hb.T sc s0 eb h st st' d hd σ H Hs I Q k)
      · exact hb.W sc s0 .And _ p h st st' d hd σ H Hs I Q k
  have core : ∀ {sc s0 : Scope} {ea eb : Expr} {r : List Expr} {p : Pos}, chkC N a sc ea = true → ((r = [] ∧ chkC N b sc eb = true) ∨ chkC N b sc (.BoolOp .And (eb :: r) p) = true) → ∀ st st' d, evC (.and a b) st = some (.bool d, st') → ∀ σ H Hs, SI E.K st σ H Hs → ∀ Q, AftT E.K (pureC a && pureC b) st σ H Hs st' d Q →
      wW E N sc s0 (.BoolOp .And (ea :: eb :: r) p) σ H Q := fun {sc s0 ea eb r p} h1 h2 st st' d hd σ H Hs I Q k => by
    simp only [evC, Option.bind_eq_some_iff] at hd
    obtain ⟨⟨da, st1⟩, e1, e2⟩ := hd
    cases da with
    | bool t =>
      refine upW (fun X g => pw_and g.pt g.pw) ?_
      refine ha.T sc s0 ea h1 st st1 t e1 σ H Hs I _ fun H1 Hs1 I1 g1 => ?_
      cases t with
      | true => exact rW h2 st1 st' d e2 σ H1 Hs1 I1 Q fun H2 Hs2 I2 g2 => k H2 Hs2 I2 (g1.trans g2)
      | false => cases e2; exact k H1 Hs1 I1 (go_l g1)
    | _ => cases e2
  refine ⟨fun sc s0 e h st st' d hd σ H Hs I Q k => ?_, noF rfl, fun sc s0 e h st st' d hd σ H Hs I Q k => ?_, fun sc s0 op vs p h st st' d hd σ H Hs I Q k => ?_, noA_of fun _ => rfl, noI_of fun _ => rfl⟩
  · obtain ⟨ea, eb, r, p, rfl, h1, h2⟩ := inv_and h
    simp only [evC, Option.bind_eq_some_iff] at hd
    obtain ⟨⟨da, st1⟩, e1, e2⟩ := hd
    refine up (fun X g => pe_and g.pe g.pe) ?_
    refine ha.C sc s0 ea h1 st st1 da e1 σ H Hs I _ fun v H1 Hs1 I1 g1 d1 => ?_
    cases da with
    | bool t =>
      cases d1
      refine ⟨t, rfl, ?_⟩
      cases t with
      | true => exact rE h2 st1 st' d e2 σ H1 Hs1 I1 Q fun v H2 Hs2 I2 g2 d2 => k v H2 Hs2 I2 (g1.trans g2) d2
      | false => cases e2; exact k _ H1 Hs1 I1 (go_l g1) (.bl _)
    | _ => cases e2
  · obtain ⟨ea, eb, r, p, rfl, h1, h2⟩ := inv_and h
    exact upT (fun X g => PW.pt g.pw) (core h1 h2 st st' d hd σ H Hs I Q k)
  · obtain ⟨ea, eb, r, p', e, h1, h2⟩ := inv_and h
    cases e
    exact core h1 h2 st st' d hd σ H Hs I Q k
theorem snd_or (a b : C) (ha : Snd E N a) (hb : Snd E N b) : Snd E N (.or a b) := by
  have rE : ∀ {sc s0 : Scope} {eb : Expr} {r : List Expr} {p : Pos}, ((r = [] ∧ chkC N b sc eb = true) ∨ chkC N b sc (.BoolOp .Or (eb :: r) p) = true) → ∀ st st' d, evC b st = some (d, st') → ∀ σ H Hs, SI E.K st σ H Hs → ∀ Q, Aft E.K (pureC b) st σ H Hs st' d Q → wE E N sc s0 (.BoolOp .Or (eb :: r) p) σ H Q :=
    fun {sc s0 eb r p} h st st' d hd σ H Hs I Q k => by
      rcases h with ⟨rfl, h⟩ | h
      · exact up (fun X g => pe_one g.pe) (hb.C sc s0 eb h st st' d hd σ H Hs I Q k)
      · exact hb.C sc s0 _ h st st' d hd σ H Hs I Q k
  have rW : ∀ {sc s0 : Scope} {eb : Expr} {r : List Expr} {p : Pos}, ((r = [] ∧ chkC N b sc eb = true) ∨ chkC N b sc (.BoolOp .Or (eb :: r) p) = true) → ∀ st st' d, evC b st = some (.bool d, st') → ∀ σ H Hs, SI E.K st σ H Hs → ∀ Q, AftT E.K (pureC b) st σ H Hs st' d Q → wW E N sc s0 (.BoolOp .Or (eb :: r) p) σ H Q :=
    fun {sc s0 eb r p} h st st' d hd σ H Hs I Q k => by
      rcases h with ⟨rfl, h⟩ | h
      · exact upW (fun X g => pw_or1 g.pt) (hb.T sc s0 eb h st st' d hd σ H Hs I Q k)
      · exact hb.W sc s0 .Or _ p h st st' d hd σ H Hs I Q k
  have core : ∀ {sc s0 : Scope} {ea eb : Expr} {r : List Expr} {p : Pos}, chkC N a sc ea = true → ((r = [] ∧ chkC N b sc eb = true) ∨ chkC N b sc (.BoolOp .Or (eb :: r) p) = true) → ∀ st st' d, evC (.or a b) st = some (.bool d, st') → ∀ σ H Hs, SI E.K st σ H Hs → ∀ Q, AftT E.K (pureC a && pureC b) st σ H Hs st' d Q →
      wW E N sc s0 (.BoolOp .Or (ea :: eb :: r) p) σ H Q := fun {sc s0 ea eb r p} h1 h2 st st' d hd σ H Hs I Q k => by
    simp only [evC, Option.bind_eq_some_iff] at hd
    obtain ⟨⟨da, st1⟩, e1, e2⟩ := hd
    cases da with
    | bool t =>
      refine upW (fun X g => pw_or g.pt g.pw) ?_
      refine ha.T sc s0 ea h1 st st1 t e1 σ H Hs I _ fun H1 Hs1 I1 g1 => ?_
      cases t with
      | false => exact rW h2 st1 st' d e2 σ H1 Hs1 I1 Q fun H2 Hs2 I2 g2 => k H2 Hs2 I2 (g1.trans g2)
      | true => cases e2; exact k H1 Hs1 I1 (go_l g1)
    | _ => cases e2
  refine ⟨fun sc s0 e h st st' d hd σ H Hs I Q k => ?_, noF rfl, fun sc s0 e h st st' d hd σ H Hs I Q k => ?_, fun sc s0 op vs p h st st' d hd σ H Hs I Q k => ?_, noA_of fun _ => rfl, noI_of fun _ => rfl⟩
  · obtain ⟨ea, eb, r, p, rfl, h1, h2⟩ := inv_or h
    simp only [evC, Option.bind_eq_some_iff] at hd
    obtain ⟨⟨da, st1⟩, e1, e2⟩ := hd
    refine up (fun X g => pe_or g.pe g.pe) ?_
    refine ha.C sc s0 ea h1 st st1 da e1 σ H Hs I _ fun v H1 Hs1 I1 g1 d1 => ?_
    cases da with
    | bool t =>
      cases d1
      refine ⟨t, rfl, ?_⟩
      cases t with
      | false => exact rE h2 st1 st' d e2 σ H1 Hs1 I1 Q fun v H2 Hs2 I2 g2 d2 => k v H2 Hs2 I2 (g1.trans g2) d2
      | true => cases e2; exact k _ H1 Hs1 I1 (go_l g1) (.bl _)
    | _ => cases e2
  · obtain ⟨ea, eb, r, p, rfl, h1, h2⟩ := inv_or h
    exact upT (fun X g => PW.pt g.pw) (core h1 h2 st st' d hd σ H Hs I Q k)
  · obtain ⟨ea, eb, r, p', e, h1, h2⟩ := inv_or h
    cases e
    exact core h1 h2 st st' d hd σ H Hs I Q k
/-- a if t else b as a test -/
theorem pt_ifExp {X : Cx} {c a b : Expr} {tc ta tb : TT} {pos : Pos} (hc : PT X c tc) (ha : PT X a ta) (hb : PT X b tb) : PT X (.IfExp c a b pos) (fun σ H Q => tc σ H fun k H1 => if k = true then ta σ H1 Q else tb σ H1 Q) := by
  refine ⟨fun pins s σ H Q I h => ?_⟩
  show wpAny _ _ (do if ← isTrue c X.env (eval c X.env) then isTrue a X.env (eval a X.env) else isTrue b X.env (eval b X.env)) _ _ _
  refine wpAny_bind (thn (hc.run pins s σ H _ I h) fun d s1 ⟨H1, I1, q1⟩ => ?_)
  cases d with
  | true => exact ha.run pins s1 σ H1 Q I1 q1
  | false => exact hb.run pins s1 σ H1 Q I1 q1
theorem snd_ife (t a b : C) (ht : Snd E N t) (ha : Snd E N a) (hb : Snd E N b) : Snd E N (.ife t a b) := by
  refine ⟨fun sc s0 e h st st' d hd σ H Hs I Q k => ?_, noF rfl, fun sc s0 e h st st' d hd σ H Hs I Q k => ?_, noW_of fun _ _ _ _ => rfl, noA_of fun _ => rfl, noI_of fun _ => rfl⟩
  · cases e <;> first | exact Bool.noConfusion h | skip
    rename_i et ea eb p
    simp only [chkC, Bool.and_eq_true] at h
    simp only [evC, Option.bind_eq_some_iff] at hd
    obtain ⟨⟨dt, st1⟩, e1, e2⟩ := hd
    cases dt with
    | bool r =>
      refine up (fun X g => pe_ifExp g.pt g.pe g.pe) ?_
      refine ht.T sc s0 et h.1.1 st st1 r e1 σ H Hs I _ fun H1 Hs1 I1 g1 => ?_
      cases r with
      | true =>
        rw [if_pos rfl]
        exact ha.C sc s0 ea h.1.2 st1 st' d e2 σ H1 Hs1 I1 Q fun v H2 Hs2 I2 g2 d2 => k v H2 Hs2 I2 (go_l (g1.trans g2)) d2
      | false =>
        rw [if_neg Bool.false_ne_true]
        exact hb.C sc s0 eb h.2 st1 st' d e2 σ H1 Hs1 I1 Q fun v H2 Hs2 I2 g2 d2 => k v H2 Hs2 I2 ((g1.trans g2).weak fun z => by simp only [pureC, Bool.and_eq_true] at z ⊢; exact ⟨z.1.1, z.2⟩) d2
    | _ => cases e2
  · cases e <;> first | exact Bool.noConfusion h | skip
    rename_i et ea eb p
    simp only [chkC, Bool.and_eq_true] at h
    simp only [evC, Option.bind_eq_some_iff] at hd
    obtain ⟨⟨dt, st1⟩, e1, e2⟩ := hd
    cases dt with
    | bool r =>
      refine upT (fun X g => pt_ifExp g.pt g.pt g.pt) ?_
      refine ht.T sc s0 et h.1.1 st st1 r e1 σ H Hs I _ fun H1 Hs1 I1 g1 => ?_
      cases r with
      | true =>
        rw [if_pos rfl]
        exact ha.T sc s0 ea h.1.2 st1 st' d e2 σ H1 Hs1 I1 Q fun H2 Hs2 I2 g2 => k H2 Hs2 I2 (go_l (g1.trans g2))
      | false =>
        rw [if_neg Bool.false_ne_true]
        exact hb.T sc s0 eb h.2 st1 st' d e2 σ H1 Hs1 I1 Q fun H2 Hs2 I2 g2 => k H2 Hs2 I2 ((g1.trans g2).weak fun z => by simp only [pureC, Bool.and_eq_true] at z ⊢; exact ⟨z.1.1, z.2⟩)
    | _ => cases e2
end
end Sm

set_option Elab.async false
set_option linter.all false
set_option maxRecDepth 100000
set_option maxHeartbeats 4000000
namespace Sm
open PySem PySem.Spec PyProof.Rows L2
section
variable {E : En} {N : List Str} {sc s0 : Scope} {c a b d : C}
theorem snd_anil : Snd E N .anil := by
  refine ⟨fun sc s0 e h st st' d hd => absurd (show (none : Option (D × DS)) = _ from hd) (by simp), noF rfl, fun sc s0 e h st st' d hd => absurd (show (none : Option (D × DS)) = _ from hd) (by simp), noW_of fun _ _ _ _ => rfl, fun sc s0 es h st st' ds hd σ H Hs I Q k => ?_, noI_of fun _ => rfl⟩
  cases es with
  | nil => cases hd; exact upA (fun X g => pa_nil) (k [] H Hs I .refl .nil)
  | cons e es => exact absurd h (by simp [chkA])
theorem snd_acons (a l : C) (ha : Snd E N a) (hl : Snd E N l) : Snd E N (.acons a l) := by
  refine ⟨fun sc s0 e h st st' d hd => absurd (show (none : Option (D × DS)) = _ from hd) (by simp), noF rfl, fun sc s0 e h st st' d hd => absurd (show (none : Option (D × DS)) = _ from hd) (by simp), noW_of fun _ _ _ _ => rfl, fun sc s0 es h st st' ds hd σ H Hs I Q k => ?_, noI_of fun _ => rfl⟩
  cases es with
  | nil => exact absurd h (by simp [chkA])
  | cons e es =>
    simp only [chkA, Bool.and_eq_true, Bool.not_eq_true'] at h
    obtain ⟨⟨h0, h1⟩, h2⟩ := h
    simp only [evA, Option.bind_eq_some_iff, Option.map_eq_some_iff] at hd
    obtain ⟨⟨da, st1⟩, e1, ⟨dl, st2⟩, e2, e3⟩ := hd
    cases e3
    refine upA (fun X g => pa_cons g.pe g.pa (star_ne h0)) ?_
    refine ha.C sc s0 e h1 st st1 da e1 σ H Hs I _ fun v H1 Hs1 I1 g1 d1 => ?_
    refine hl.A sc s0 es h2 st1 _ dl e2 σ H1 Hs1 I1 _ fun vs H2 Hs2 I2 g2 d2 => ?_
    exact k _ H2 Hs2 I2 (g1.trans g2) (.cons (g2.dp d1) d2)
theorem snd_nop : Snd E N .nop := by
  refine ⟨fun sc s0 e h => ?_, noF rfl, fun sc s0 e h => ?_, fun sc s0 op vs p h => ?_, noA_of fun _ => rfl, noI_of fun _ => rfl⟩
  all_goals exact absurd h (by simp [chkC])
theorem snd_tup (l : C) (hl : Snd E N l) : Snd E N (.tup l) := by
  refine mkSnd (fun _ => rfl) (fun _ => rfl) (fun _ _ _ _ => rfl) (fun sc e h => ?_) (fun sc s0 e h st st' d hd σ H Hs I Q k => ?_) (noF rfl)
  · cases e <;> first | rfl | exact Bool.noConfusion h
  · cases e <;> first | exact Bool.noConfusion h | skip
    rename_i es j p
    simp only [evC, Option.bind_eq_some_iff] at hd
    obtain ⟨⟨ds, st1⟩, e1, e2⟩ := hd
    simp only at e2
    split at e2
    · rename_i hz
      cases e2
      refine up (fun X g => pe_tup g.pa) ?_
      refine hl.A sc s0 es h st _ ds e1 σ H Hs I _ fun vs H1 Hs1 I1 g1 d1 => ?_
      exact ⟨by rw [dps_len d1, ← line_eq]; exact hz, fun p hp => aft_tup I1 g1 d1 k p hp⟩
    · cases e2
theorem snd_lst (l : C) (hl : Snd E N l) : Snd E N (.lst l) := by
  refine mkSndF (fun _ => rfl) (fun _ => rfl) (fun _ _ _ _ => rfl) (fun sc e h => ?_) (fun st st' d hd => ?_) (fun sc s0 e h st st' d hd σ H Hs I Q k => ?_)
  · cases e <;> first | rfl | exact Bool.noConfusion h
  · simp only [evC, Option.bind_eq_some_iff] at hd
    obtain ⟨⟨ds, st1⟩, e1, e2⟩ := hd
    simp only at e2
    split at e2
    · cases e2; exact ⟨_, rfl⟩
    · cases e2
  · cases e <;> first | exact Bool.noConfusion h | skip
    rename_i es p
    simp only [evC, Option.bind_eq_some_iff] at hd
    obtain ⟨⟨ds, st1⟩, e1, e2⟩ := hd
    simp only at e2
    split at e2
    · rename_i hz
      cases e2
      refine up (fun X g => pe_lst g.pa) ?_
      refine hl.A sc s0 es h st _ _ e1 σ H Hs I _ fun vs H1 Hs1 I1 g1 d1 => ?_
      exact ⟨by rw [dps_len d1, ← line_eq]; exact hz, fun p hp => aftF_list I1 g1 d1 k p hp⟩
    · cases e2
theorem plainIx {e : Expr} (h : isSlc e = false) : PlainIx e := by
  intro o i
  cases e <;> first | rfl | exact Bool.noConfusion h
theorem at_get {Hs : Hp} {vs : List V} {ds : List D} {i : Int} {d : D} (h : DpAll [] Hs vs ds) (e : atD ds i = some d) : ∃ v, atI vs i = some v ∧ Dp [] Hs v d := by
  unfold atD atI at e
  simp only [Option.bind_eq_some_iff] at e
  obtain ⟨j, e1, e2⟩ := e
  obtain ⟨v, h1, h2⟩ := dps_get h e2
  refine ⟨v, ?_, h2⟩
  unfold atI
  rw [dps_len h, e1]
  exact h1
theorem inv_sub {i : C} {sc : Scope} {e : Expr} (h : chkC N (.sub a i) sc e = true) : ∃ ea ei p, e = .Subscript ea ei p ∧ isSlc ei = false ∧ chkC N a sc ea = true ∧ chkC N i sc ei = true := by
  cases e <;> first | exact Bool.noConfusion h | skip
  rename_i ea ei p
  simp only [chkC, Bool.and_eq_true, Bool.not_eq_true'] at h
  exact ⟨ea, ei, p, rfl, h.1.1, h.1.2, h.2⟩
theorem snd_sub (a i : C) (ha : Snd E N a) (hi : Snd E N i) : Snd E N (.sub a i) := by
  refine mkSnd (fun _ => rfl) (fun _ => rfl) (fun _ _ _ _ => rfl) (fun sc e h => ?_) (fun sc s0 e h st st' d hd σ H Hs I Q k => ?_) (noF rfl)
  · cases e <;> first | rfl | exact Bool.noConfusion h
  · obtain ⟨ea, ei, p, rfl, h0, h1, h2⟩ := inv_sub h
    simp only [evC, Option.bind_eq_some_iff, Option.map_eq_some_iff] at hd
    obtain ⟨⟨da, st1⟩, e1, ⟨di, st2⟩, e2, dd, e3, e4⟩ := hd
    cases e4
    refine up (t := tOp (rIx E.K) (wE E N sc s0 ea) (wE E N sc s0 ei)) (fun X g => by rw [← g.eK]; exact pe_ix ix_seq g.pe g.pe (plainIx h0)) ?_
    refine ha.C sc s0 ea h1 st st1 da e1 σ H Hs I _ fun v H1 Hs1 I1 g1 d1 => ?_
    refine hi.C sc s0 ei h2 st1 _ di e2 σ H1 Hs1 I1 _ fun u H2 Hs2 I2 g2 d2 => ?_
    have d1' := g2.dp d1
    cases da with
    | list l =>
      cases di with
      | int j =>
        cases d2
        cases d1' with
        | lst hs hl =>
          obtain ⟨w, w1, w2⟩ := at_get hl e3
          exact .inl ⟨_, _, j, w, rfl, rfl, .inl (rd_up I2.sub (dp_rd hs)), w1, k w H2 Hs2 I2 (g1.trans g2) w2⟩
      | _ => cases e3
    | tuple l =>
      cases di with
      | int j =>
        cases d2
        cases d1' with
        | tup hs hl =>
          obtain ⟨w, w1, w2⟩ := at_get hl e3
          exact .inr (.inl ⟨_, _, j, w, rfl, rfl, .inl (rd_up I2.sub (dp_rt hs)), w1, k w H2 Hs2 I2 (g1.trans g2) w2⟩)
      | _ => cases e3
    | str z =>
      cases di with
      | int j =>
        cases d2
        cases d1'
        simp only [subD] at e3
        split at e3
        · rename_i hz
          simp only [Option.map_eq_some_iff] at e3
          obtain ⟨q, e5, e6⟩ := e3
          subst e6
          exact .inr (.inr ⟨z, j, q, rfl, rfl, by rw [← line_eq]; exact hz, e5, k _ H2 Hs2 I2 (g1.trans g2) (.str _)⟩)
        · cases e3
      | _ => cases e3
    | _ => cases di <;> cases e3
/-- a list that a slot holds, or that may be shared -/
theorem getO_ok {st : DS} {σ : L2.St} {H Hs : Hp} {j : Nat} {ds : List D} (I : SI E.K st σ H Hs) (h : getO st j = some ds) : ∃ a xs, σ[j]? = some (some (.ref a)) ∧ Rd H a (.lst xs) ∧ DpAll [] Hs xs ds := by
  unfold getO at h
  split at h
  · rename_i es hs
    cases h
    obtain ⟨a, xs, h1, h2, h3, _⟩ := I.ow j _ hs
    exact ⟨a, xs, h1, .inl h2, h3⟩
  · rename_i es hs
    cases h
    obtain ⟨v, h1, h2⟩ := I.sh j _ hs
    cases h2 with
    | lst hq hl => exact ⟨_, _, h1, rd_up I.sub (dp_rd hq), hl⟩
  · cases h
theorem snd_subO (j : Nat) (i : C) (hi : Snd E N i) : Snd E N (.subO j i) := by
  have inv : ∀ {sc : Scope} {e : Expr}, chkC N (.subO j i) sc e = true → ∃ ea ei p, e = .Subscript ea ei p ∧ isSlc ei = false ∧ nmB N sc j ea = true ∧ chkC N i sc ei = true := fun {sc e} h => by
    cases e <;> first | exact Bool.noConfusion h | skip
    rename_i ea ei p
    simp only [chkC, Bool.and_eq_true, Bool.not_eq_true'] at h
    exact ⟨ea, ei, p, rfl, h.1.1, h.1.2, h.2⟩
  refine mkSnd (fun _ => rfl) (fun _ => rfl) (fun _ _ _ _ => rfl) (fun sc e h => ?_) (fun sc s0 e h st st' d hd σ H Hs I Q k => ?_) (noF rfl)
  · cases e <;> first | rfl | exact Bool.noConfusion h
  · obtain ⟨ea, ei, p, rfl, h0, h1, h2⟩ := inv h
    simp only [evC, Option.bind_eq_some_iff] at hd
    obtain ⟨ds0, e0, ⟨di, st2⟩, e2, e3⟩ := hd
    obtain ⟨a0, xs0, hv, _, _⟩ := getO_ok I e0
    cases di with
    | int q =>
      simp only [Option.bind_eq_some_iff, Option.map_eq_some_iff] at e3
      obtain ⟨ds, e4, dd, e5, e6⟩ := e3
      cases e6
      refine up (t := tOp (rIxL E.K) (tVar j) (wE E N sc s0 ei)) (fun X g => by rw [← g.eK]; exact pe_ix ix_list (g.nm h1) g.pe (plainIx h0)) ?_
      refine ⟨_, hv, ?_⟩
      refine hi.C sc s0 ei h2 st _ (.int q) e2 σ H Hs I _ fun u H2 Hs2 I2 g2 d2 => ?_
      obtain ⟨a, xs, w1, w2, w3⟩ := getO_ok I2 e4
      rw [hv] at w1
      cases w1
      cases d2
      obtain ⟨w, z1, z2⟩ := at_get w3 e5
      exact ⟨_, xs, q, w, rfl, rfl, .inl w2, z1, k w H2 Hs2 I2 g2 z2⟩
    | _ => cases e3
/-- a part of a slice -/
def partT (E : En) (N : List Str) (sc s0 : Scope) : Option Expr → TO
  | none => tNoPart
  | some e => tPart (wE E N sc s0 e)
def partC (N : List Str) (lo : C) (sc : Scope) : Option Expr → Bool
  | none => isNop lo
  | some e => !isNop lo && chkC N lo sc e
theorem part_ok {X : Cx} (g : Gd E N sc s0 X) {lo : C} {l : Option Expr} (h : partC N lo sc l = true) : PO X l (partT E N sc s0 l) := by
  cases l with
  | none => exact po_none
  | some e => exact po_some g.pe
theorem part_val {lo : C} (hlo : Snd E N lo) {l : Option Expr} (h : partC N lo sc l = true) {st st' : DS} {o : Option Int} (e : evP (isNop lo) (evC lo st) st = some (o, st')) {σ : L2.St} {H Hs : Hp} (I : SI E.K st σ H Hs)
    {Q : Option Int → Hp → Prop} (k : ∀ H' Hs', SI E.K st' σ H' Hs' → Go (pureC lo) st σ H Hs st' σ H' Hs' → Q o H') : partT E N sc s0 l σ H Q := by
  unfold evP at e
  cases l with
  | none =>
    have h' : isNop lo = true := h
    rw [h'] at e
    simp only [if_true] at e
    cases e
    exact k H Hs I .refl
  | some ex =>
    simp only [partC, Bool.and_eq_true, Bool.not_eq_true'] at h
    rw [h.1] at e
    simp only [Bool.false_eq_true, if_false, Option.bind_eq_some_iff] at e
    obtain ⟨⟨d, st1⟩, e1, e2⟩ := e
    cases d with
    | int i =>
      cases e2
      refine hlo.C sc s0 ex h.2 st _ (.int i) e1 σ H Hs I _ fun v H1 Hs1 I1 g1 d1 => ?_
      cases d1
      exact ⟨i, rfl, k H1 Hs1 I1 g1⟩
    | _ => cases e2
theorem cut_dps {Hs : Hp} {xs : List V} {ds : List D} (h : DpAll [] Hs xs ds) (lo hi : Option Int) : DpAll [] Hs (cutV xs lo hi) (cutD ds lo hi) := by
  unfold cutV cutD
  rw [dps_len h]
  exact dps_take _ (dps_drop _ h)
theorem snd_slice (a lo hi : C) (ha : Snd E N a) (hlo : Snd E N lo) (hhi : Snd E N hi) : Snd E N (.slice a lo hi) := by
  have inv : ∀ {sc : Scope} {e : Expr}, chkC N (.slice a lo hi) sc e = true → ∃ ea l h q p, e = .Subscript ea (.Slice l h none q) p ∧ chkC N a sc ea = true ∧ partC N lo sc l = true ∧ partC N hi sc h = true := fun {sc e} h => by
    cases e <;> first | exact Bool.noConfusion h | skip
    rename_i ea ei p
    cases ei <;> first | exact Bool.noConfusion h | skip
    rename_i l u s q
    cases s with
    | none =>
      simp only [chkC, Bool.and_eq_true] at h
      exact ⟨ea, l, u, q, p, rfl, h.1.1, by cases l <;> exact h.1.2, by cases u <;> exact h.2⟩
    | some z => exact Bool.noConfusion h
  refine mkSndF (fun _ => rfl) (fun _ => rfl) (fun _ _ _ _ => rfl) (fun sc e h => ?_) (fun st st' d hd => ?_) (fun sc s0 e h st st' d hd σ H Hs I Q k => ?_)
  · cases e <;> first | rfl | exact Bool.noConfusion h
  · simp only [evC, Option.bind_eq_some_iff, Option.map_eq_some_iff] at hd
    obtain ⟨⟨da, st1⟩, e1, p, e2, q, e3, dd, e4, e5⟩ := hd
    cases e5
    cases da with
    | list l => cases e4; exact ⟨_, rfl⟩
    | _ => cases e4
  · obtain ⟨ea, l, u, q, p, rfl, h1, h2, h3⟩ := inv h
    simp only [evC, Option.bind_eq_some_iff, Option.map_eq_some_iff] at hd
    obtain ⟨⟨da, st1⟩, e1, ⟨o1, st2⟩, e2, ⟨o2, st3⟩, e3, dd, e4, e5⟩ := hd
    cases e5
    cases da with
    | list ds =>
      cases e4
      refine up (t := tSl (rSlL E.K) (wE E N sc s0 ea) (partT E N sc s0 l) (partT E N sc s0 u)) (fun X g => by rw [← g.eK]; exact pe_slice sl_list g.pe (part_ok g h2) (part_ok g h3)) ?_
      refine ha.C sc s0 ea h1 st st1 _ e1 σ H Hs I _ fun v H1 Hs1 I1 g1 d1 => ?_
      refine part_val (s0 := s0) hlo h2 e2 I1 fun H2 Hs2 I2 g2 => ?_
      refine part_val (s0 := s0) hhi h3 e3 I2 fun H3 Hs3 I3 g3 => ?_
      have d3 := g3.dp (g2.dp d1)
      cases d3 with
      | lst hs hl => exact ⟨_, _, rfl, .inl (rd_up I3.sub (dp_rd hs)), fun z hz => aftF_list I3 ((g1.trans g2).trans g3) (cut_dps hl o1 o2) k z hz⟩
    | _ => cases e4
theorem snd_slcO (j : Nat) (lo hi : C) (hlo : Snd E N lo) (hhi : Snd E N hi) : Snd E N (.slcO j lo hi) := by
  have inv : ∀ {sc : Scope} {e : Expr}, chkC N (.slcO j lo hi) sc e = true → ∃ ea l h q p, e = .Subscript ea (.Slice l h none q) p ∧ nmB N sc j ea = true ∧ partC N lo sc l = true ∧ partC N hi sc h = true := fun {sc e} h => by
    cases e <;> first | exact Bool.noConfusion h | skip
    rename_i ea ei p
    cases ei <;> first | exact Bool.noConfusion h | skip
    rename_i l u s q
    cases s with
    | none =>
      simp only [chkC, Bool.and_eq_true] at h
      exact ⟨ea, l, u, q, p, rfl, h.1.1, by cases l <;> exact h.1.2, by cases u <;> exact h.2⟩
    | some z => exact Bool.noConfusion h
  refine mkSndF (fun _ => rfl) (fun _ => rfl) (fun _ _ _ _ => rfl) (fun sc e h => ?_) (fun st st' d hd => ?_) (fun sc s0 e h st st' d hd σ H Hs I Q k => ?_)
  · cases e <;> first | rfl | exact Bool.noConfusion h
  · simp only [evC, Option.bind_eq_some_iff, Option.map_eq_some_iff] at hd
    obtain ⟨_, _, p, e2, q, e3, dd, e4, e5⟩ := hd
    cases e5
    exact ⟨_, rfl⟩
  · obtain ⟨ea, l, u, q, p, rfl, h1, h2, h3⟩ := inv h
    simp only [evC, Option.bind_eq_some_iff, Option.map_eq_some_iff] at hd
    obtain ⟨ds0, e0, ⟨o1, st2⟩, e2, ⟨o2, st3⟩, e3, dd, e4, e5⟩ := hd
    cases e5
    obtain ⟨a0, xs0, hv, _, _⟩ := getO_ok I e0
    refine up (t := tSl (rSlL E.K) (tVar j) (partT E N sc s0 l) (partT E N sc s0 u)) (fun X g => by rw [← g.eK]; exact pe_slice sl_list (g.nm h1) (part_ok g h2) (part_ok g h3)) ?_
    refine ⟨_, hv, ?_⟩
    refine part_val (s0 := s0) hlo h2 e2 I fun H2 Hs2 I2 g2 => ?_
    refine part_val (s0 := s0) hhi h3 e3 I2 fun H3 Hs3 I3 g3 => ?_
    obtain ⟨a, xs, w1, w2, w3⟩ := getO_ok I3 e4
    rw [hv] at w1
    cases w1
    exact ⟨_, xs, rfl, .inl w2, fun z hz => aftF_list I3 (g2.trans g3) (cut_dps w3 o1 o2) k z hz⟩
theorem snd_rev (a : C) (ha : Snd E N a) : Snd E N (.rev a) := by
  have inv : ∀ {sc : Scope} {e : Expr}, chkC N (.rev a) sc e = true → ∃ ea k p1 p2 p3 p, e = .Subscript ea (.Slice none none (some (.UnaryOp .USub (.Constant (.int 1) k p1) p2)) p3) p ∧ chkC N a sc ea = true := fun {sc e} h => by
    cases e <;> first | exact Bool.noConfusion h | skip
    rename_i ea ei p
    cases ei <;> first | exact Bool.noConfusion h | skip
    rename_i l u s q
    match l, u, s, h with
    | none, none, some (.UnaryOp .USub (.Constant (.int k) j p1) p2), h =>
      simp only [chkC, Bool.and_eq_true, decide_eq_true_eq] at h
      obtain ⟨h1, h2⟩ := h
      subst h1
      exact ⟨ea, _, _, _, _, _, rfl, h2⟩
  refine mkSndF (fun _ => rfl) (fun _ => rfl) (fun _ _ _ _ => rfl) (fun sc e h => ?_) (fun st st' d hd => ?_) (fun sc s0 e h st st' d hd σ H Hs I Q k => ?_)
  · cases e <;> first | rfl | exact Bool.noConfusion h
  · simp only [evC, Option.bind_eq_some_iff, Option.map_eq_some_iff] at hd
    obtain ⟨⟨da, st1⟩, e1, dd, e4, e5⟩ := hd
    cases e5
    cases da with
    | list l => cases e4; exact ⟨_, rfl⟩
    | _ => cases e4
  · obtain ⟨ea, kk, p1, p2, p3, p, rfl, h1⟩ := inv h
    simp only [evC, Option.bind_eq_some_iff, Option.map_eq_some_iff] at hd
    obtain ⟨⟨da, st1⟩, e1, dd, e4, e5⟩ := hd
    cases e5
    cases da with
    | list ds =>
      cases e4
      refine up (t := tRevL E.K (wE E N sc s0 ea)) (fun X g => by rw [← g.eK]; exact pe_revL g.pe) ?_
      refine ha.C sc s0 ea h1 st _ _ e1 σ H Hs I _ fun v H1 Hs1 I1 g1 d1 => ?_
      cases d1 with
      | lst hs hl => exact ⟨_, _, rfl, .inl (rd_up I1.sub (dp_rd hs)), fun z hz => aftF_list I1 g1 (dps_rev hl) k z hz⟩
    | _ => cases e4
/-! ### built-in functions -/
theorem inv_blt {f : FB} {l : C} {sc : Scope} {e : Expr} (h : chkC N (.blt f l) sc e = true) : ∃ p x es q, e = .Call (.Name (fbName f) p) (x :: es) [] q ∧ fbTy f = none ∧ glB sc (fbName f) = true ∧ chkA N l sc (x :: es) = true := by
  cases e <;> first | exact Bool.noConfusion h | skip
  rename_i fn es kw q
  cases fn <;> first | exact Bool.noConfusion h | skip
  rename_i y p
  cases es with
  | nil => exact Bool.noConfusion h
  | cons x es =>
    simp only [chkC, Bool.and_eq_true, decide_eq_true_eq, List.isEmpty_iff, Option.isNone_iff_eq_none] at h
    obtain ⟨⟨⟨⟨h0, h1⟩, h2⟩, h3⟩, h4⟩ := h
    subst h1
    subst h3
    exact ⟨p, x, es, q, rfl, h0, h2, h4⟩
theorem inv_isi {f : FB} {a : C} {sc : Scope} {e : Expr} (h : chkC N (.isi f a) sc e = true) : ∃ p x ty p2 q, e = .Call (.Name "isinstance" p) [x, .Name ty p2] [] q ∧ fbTy f = some ty ∧ glB sc "isinstance" = true ∧ glB sc ty = true ∧ isStar x = false ∧ chkC N a sc x = true := by
  cases e <;> first | exact Bool.noConfusion h | skip
  rename_i fn es kw q
  cases fn <;> first | exact Bool.noConfusion h | skip
  rename_i y p
  match es, h with
  | [x, .Name t p2], h =>
    simp only [chkC, Bool.and_eq_true, decide_eq_true_eq, List.isEmpty_iff, Bool.not_eq_true'] at h
    obtain ⟨⟨⟨⟨⟨⟨h1, h2⟩, h3⟩, h4⟩, h5⟩, h6⟩, h7⟩ := h
    subst h1
    subst h3
    exact ⟨p, x, t, p2, q, rfl, h4.symm, h2, h5, h6, h7⟩
def fbStr : FB → String
  | .isInt => "int" | .isBool => "bool" | .isList => "list" | .isTuple => "tuple" | .isStr => "str" | _ => ""
theorem isi_kit {f : FB} {ty : Str} (hf : fbTy f = some ty) {d : D} {r : D} (h : bltD f [d] = some r) : ∃ b, r = .bool b ∧ kitB (tyName d) (fbStr f) = some b := by
  cases f <;> first | (cases hf; done) | skip
  all_goals
    cases h
    cases d <;> exact ⟨_, rfl, by kernel_rfl⟩
theorem isi_boot {f : FB} {ty : Str} (hf : fbTy f = some ty) : bootBuiltins ty = some (.type (fbStr f)) ∧ ty ∈ bltNames ∧ ty ≠ "__name__" ∧ (ty == ("__debug__" : Str)) = false := by
  cases f <;> cases hf <;> exact ⟨by decide +kernel, by decide, by decide, by decide⟩
end
end Sm

set_option Elab.async false
set_option linter.all false
set_option maxRecDepth 100000
set_option maxHeartbeats 4000000
namespace Sm
open PySem PySem.Spec PyProof.Rows L2
section
variable {E : En} {N : List Str} {sc s0 : Scope} {c a b d : C}
theorem head_star {l : C} {x : Expr} {es : List Expr} {env : Env} (h : chkA N l sc (x :: es) = true) : starEach (x :: es) env = (false, eval x env) :: starEach es env := by
  cases l with
  | acons a l =>
    simp only [chkA, Bool.and_eq_true, Bool.not_eq_true'] at h
    exact star_ne h.1.1
  | _ => exact absurd h (by simp [chkA])
theorem tail_star {l : C} {x : Expr} {es : List Expr} {env : Env} {pos : Pos} (h : chkA N l sc (x :: es) = true) : (backTo pos (starEach es env)).any (·.1) = false := by
  cases l with
  | acons a l =>
    simp only [chkA, Bool.and_eq_true, Bool.not_eq_true'] at h
    exact (no_star h.2).1
  | _ => exact absurd h (by simp [chkA])
theorem blt_plain {f : FB} {l : C} : ∀ sc e, chkC N (.blt f l) sc e = true → plainB e = true := fun sc e h => by
  cases e <;> first | rfl | exact Bool.noConfusion h
theorem blt_listy {f : FB} (hf : freshC (.blt f a) = true) {ds : List D} {d : D} (h : bltD f ds = some d) : ∃ l, d = .list l := by
  cases f <;> first | exact Bool.noConfusion hf | skip
  · match ds, h with
    | [.list l], h =>
      simp only [bltD, Option.map_eq_some_iff] at h
      obtain ⟨ns, _, e⟩ := h
      exact ⟨_, e.symm⟩
  · match ds, h with
    | [.list l], h => cases h; exact ⟨_, rfl⟩
    | [.tuple l], h => cases h; exact ⟨_, rfl⟩
theorem snd_blt (f : FB) (l : C) (hl : Snd E N l) : Snd E N (.blt f l) := by
  refine mkSnd (fun _ => rfl) (fun _ => rfl) (fun _ _ _ _ => rfl) blt_plain (fun sc s0 e h st st' d hd σ H Hs I Q k => ?_) (fun hfr sc s0 e h st st' ds hd σ H Hs I Q k => ?_)
  · obtain ⟨p, x, es, q, rfl, hf, h1, h2⟩ := inv_blt h
    simp only [evC, Option.bind_eq_some_iff, Option.map_eq_some_iff] at hd
    obtain ⟨⟨da, st1⟩, e1, dd, e2, e3⟩ := hd
    cases e3
    refine up (fun X g => blt_rule g hf h2 h1) ?_
    refine hl.A sc s0 (x :: es) h2 st _ da e1 σ H Hs I _ fun vs H1 Hs1 I1 g1 d1 => ?_
    exact blt_val hf e2 I1.sub d1 (fun v dv => k v H1 Hs1 I1 g1 dv) (fun zs es e hz p hp => aft_list I1 g1 hz (e ▸ k) p hp) (fun zs es e hz p hp => aft_tup I1 g1 hz (e ▸ k) p hp)
  · obtain ⟨p, x, es, q, rfl, hf, h1, h2⟩ := inv_blt h
    simp only [evC, Option.bind_eq_some_iff, Option.map_eq_some_iff] at hd
    obtain ⟨⟨da, st1⟩, e1, dd, e2, e3⟩ := hd
    cases e3
    refine up (fun X g => blt_rule g hf h2 h1) ?_
    refine hl.A sc s0 (x :: es) h2 st _ da e1 σ H Hs I _ fun vs H1 Hs1 I1 g1 d1 => ?_
    cases f <;> first | exact Bool.noConfusion hfr | skip
    · match da, e2, d1 with
      | [.list l], e2, d1 =>
        obtain ⟨v, rfl, hv⟩ := dps1 d1
        simp only [bltD, Option.map_eq_some_iff] at e2
        obtain ⟨ns, hn, e⟩ := e2
        cases e
        cases hv with
        | lst hs ha =>
          obtain ⟨z1, _⟩ := dps_ints ha hn
          subst z1
          refine ⟨_, ns, rfl, .inl (rd_up I1.sub (dp_rd hs)), fun ns' p hp ho hf => ?_⟩
          rw [sortL_is hp ho]
          exact aftF_list I1 g1 (dps_of_ints _) k p hf
    · match da, e2, d1 with
      | [.list l], e2, d1 =>
        obtain ⟨v, rfl, hv⟩ := dps1 d1
        cases e2
        cases hv with
        | lst hs ha => exact ⟨_, _, rfl, .inl (.inl (rd_up I1.sub (dp_rd hs))), fun p hp => aftF_list I1 g1 ha k p hp⟩
      | [.tuple l], e2, d1 =>
        obtain ⟨v, rfl, hv⟩ := dps1 d1
        cases e2
        cases hv with
        | tup hs ha => exact ⟨_, _, rfl, .inr (.inl (rd_up I1.sub (dp_rt hs))), fun p hp => aftF_list I1 g1 ha k p hp⟩
theorem snd_isi (f : FB) (a : C) (ha : Snd E N a) : Snd E N (.isi f a) := by
  refine mkSnd (fun _ => rfl) (fun _ => rfl) (fun _ _ _ _ => rfl) (fun sc e h => ?_) (fun sc s0 e h st st' d hd σ H Hs I Q k => ?_) (noF rfl)
  · cases e <;> first | rfl | exact Bool.noConfusion h
  · obtain ⟨p, x, ty, p2, q, rfl, hf, h1, h2, hst, h3⟩ := inv_isi h
    simp only [evC, Option.bind_eq_some_iff, Option.map_eq_some_iff] at hd
    obtain ⟨⟨da, st1⟩, e1, dd, e2, e3⟩ := hd
    cases e3
    obtain ⟨b1, b2, b3, b4⟩ := isi_boot hf
    obtain ⟨b, rfl, hk⟩ := isi_kit hf e2
    refine up (t := tCB (rIsi E.K) (tCons (wE E N sc s0 x) (tCons (tC (.ty (fbStr f))) tNil))) (fun X g => by
      rw [← g.eK]
      exact pe_callB call_isi (g.gl h1) (g.mn (by decide)) (by decide +kernel) (pa_cons g.pe (pa_cons (pe_bltn (v := .ty (fbStr f)) (g.gl h2) (g.mn b2) b1 rfl b3 b4) pa_nil) (star_ne hst)) (by decide) (by decide) (star_ne hst) rfl) ?_
    refine ha.C sc s0 x h3 st _ da e1 σ H Hs I _ fun v H1 Hs1 I1 g1 d1 => ?_
    exact ⟨v, .ty (fbStr f), _, _, b, rfl, .ty _, dp_ty (I1.up d1), kit_ty hk, k _ H1 Hs1 I1 g1 (.bl b)⟩
theorem snd_srev (a : C) (ha : Snd E N a) : Snd E N (.srev a) := by
  have inv : ∀ {sc : Scope} {e : Expr}, chkC N (.srev a) sc e = true → ∃ p x j p1 p2 q, e = .Call (.Name "sorted" p) [x] [⟨some "reverse", .Constant (.bool true) j p1, p2⟩] q ∧ glB sc "sorted" = true ∧ isStar x = false ∧ chkC N a sc x = true := fun {sc e} h => by
    cases e <;> first | exact Bool.noConfusion h | skip
    rename_i fn es kw q
    cases fn <;> first | exact Bool.noConfusion h | skip
    rename_i y p
    match es, kw, h with
    | [x], [⟨some n, .Constant (.bool true) j p1, p2⟩], h =>
      simp only [chkC, Bool.and_eq_true, decide_eq_true_eq, Bool.not_eq_true'] at h
      obtain ⟨⟨⟨⟨h1, h2⟩, h3⟩, h4⟩, h5⟩ := h
      subst h1
      subst h2
      exact ⟨p, x, j, p1, p2, q, rfl, h3, h4, h5⟩
  refine mkSndF (fun _ => rfl) (fun _ => rfl) (fun _ _ _ _ => rfl) (fun sc e h => ?_) (fun st st' d hd => ?_) (fun sc s0 e h st st' d hd σ H Hs I Q k => ?_)
  · cases e <;> first | rfl | exact Bool.noConfusion h
  · simp only [evC, Option.bind_eq_some_iff] at hd
    obtain ⟨⟨da, st1⟩, e1, e2⟩ := hd
    cases da with
    | list l =>
      simp only [Option.map_eq_some_iff] at e2
      obtain ⟨ns, _, e⟩ := e2
      cases e
      exact ⟨_, rfl⟩
    | _ => cases e2
  · obtain ⟨p, x, j, p1, p2, q, rfl, h1, hst, h2⟩ := inv h
    simp only [evC, Option.bind_eq_some_iff] at hd
    obtain ⟨⟨da, st1⟩, e1, e2⟩ := hd
    cases da with
    | list l =>
      simp only [Option.map_eq_some_iff] at e2
      obtain ⟨ns, hn, e⟩ := e2
      cases e
      refine up (t := tCKw (rSortedKw E.K true [.bl true]) (tCons (wE E N sc s0 x) tNil) (tCons (tC (.bl true)) tNil)) (fun X g => by
        rw [← g.eK]
        exact pe_callBK (cr_sortedRev (b := true)) (g.gl h1) (g.mn (by decide)) (by decide +kernel) (pa_cons g.pe pa_nil (star_ne hst)) (pk_cons pe_bl pk_nil) (by decide) (by decide) (by rw [star_ne hst]; rfl) (by rw [star_ne hst]; rfl) rfl rfl rfl) ?_
      refine ha.C sc s0 x h2 st _ _ e1 σ H Hs I _ fun v H1 Hs1 I1 g1 d1 => ?_
      cases d1 with
      | lst hs hl =>
        obtain ⟨z1, _⟩ := dps_ints hl hn
        subst z1
        refine ⟨_, ns, rfl, rfl, .inl (rd_up I1.sub (dp_rd hs)), fun ns' p hp ho hf => ?_⟩
        have ho' : ns'.Pairwise (· ≥ ·) := by simpa [OrdB] using ho
        rw [sortR_is hp ho']
        exact aftF_list I1 g1 (dps_of_ints _) k p hf
    | _ => cases e2
/-! ### calls -/
theorem inv_call {x : Str} {f : List D → Option D} {l : C} {sc : Scope} {e : Expr} (h : chkC N (.call x f l) sc e = true) : ∃ p y es q, e = .Call (.Name x p) (y :: es) [] q ∧ glB sc x = true ∧ okName x = true ∧ chkA N l sc (y :: es) = true := by
  cases e <;> first | exact Bool.noConfusion h | skip
  rename_i fn es kw q
  cases fn <;> first | exact Bool.noConfusion h | skip
  rename_i y p
  cases es with
  | nil => exact Bool.noConfusion h
  | cons z es =>
    simp only [chkC, Bool.and_eq_true, decide_eq_true_eq, List.isEmpty_iff] at h
    obtain ⟨⟨⟨⟨h1, h2⟩, h3⟩, h4⟩, h5⟩ := h
    subst h1
    subst h4
    exact ⟨p, z, es, q, rfl, h2, h3, h5⟩
theorem snd_call (x : Str) (f : List D → Option D) (l : C) (ok : okF E x f) (hl : Snd E N l) : Snd E N (.call x f l) := by
  refine mkSnd (fun _ => rfl) (fun _ => rfl) (fun _ _ _ _ => rfl) (fun sc e h => ?_) (fun sc s0 e h st st' d hd σ H Hs I Q k => ?_) (noF rfl)
  · cases e <;> first | rfl | exact Bool.noConfusion h
  · obtain ⟨p, y, es, q, rfl, h1, h2, h3⟩ := inv_call h
    simp only [evC, Option.bind_eq_some_iff, Option.map_eq_some_iff] at hd
    obtain ⟨⟨da, st1⟩, e1, dd, e2, e3⟩ := hd
    cases e3
    obtain ⟨n, dvs, dd, f', ⟨fa, fd, ps, ds, m1, m2, m3, m4, m5, m6⟩, hdd, hf⟩ := ok
    obtain ⟨f1, f2⟩ := hf da d e2
    refine up (t := tCall (spP n f') dvs E0 (wA E N sc s0 (y :: es))) (fun X g => pe_call (g.fn m4) g.room (g.gl h1) (by rw [g.emg]; exact m1) (by rw [g.eK]; exact m2) (by rw [g.eK]; exact m5) m6 pass0 g.pa (ok_debug h2) (head_star h3) (tail_star h3)) ?_
    refine hl.A sc s0 (y :: es) h3 st _ da e1 σ H Hs I _ fun vs H1 Hs1 I1 g1 d1 => ?_
    refine ⟨Hs1, da ++ dd, d, by rw [List.length_append, dps_len d1, f2], I1.sub, dps_app d1 (hdd Hs1), f1, fun v H' Hs' q1 q2 q3 q4 q5 => ?_⟩
    refine k v H' Hs' ⟨I1.len, q3, fun i d z => ?_, fun i es z => ?_, I1.ne, fun i ns z => ?_⟩ ⟨fun a o n z => q1 a o (g1.fr a o n z), fun a z => ?_, g1.old.trans q2, fun a o z => ?_, g1.ows, fun z a o w => q1 a o (g1.pu z a o w)⟩ q5
    · obtain ⟨w, w1, w2⟩ := I1.sh i d z
      exact ⟨w, w1, dp_mono q2 _ _ w2⟩
    · obtain ⟨a, xs, w1, w2, w3, w4⟩ := I1.ow i es z
      refine ⟨a, xs, w1, q1 _ _ w2, dps_mono q2 _ _ w3, ?_⟩
      cases r : Hs' a with
      | none => rfl
      | some o =>
        rcases q4 a o r with ⟨u, t⟩ | t
        · rw [w4] at t; cases t
        · rw [w2] at t; cases t
    · obtain ⟨a, w1, w2⟩ := I1.ro i ns z
      exact ⟨a, w1, w2.mono fun o u t => q1 _ _ t⟩
    · cases r : H1 a with
      | none => exact g1.al a r
      | some o => rw [q1 a o r] at z; cases z
    · rcases q4 a o z with ⟨u, t⟩ | t
      · exact g1.new a u t
      · exact .inr (.inl (g1.al a t))
/-- behind a call of a def: what stood is as it was, or (at c) changed by it -/
theorem inv_cro {x : Str} {f : List Int → List D → Option D} {j : Nat} {l : C} {sc : Scope} {e : Expr} (h : chkC N (.cro x f j l) sc e = true) : ∃ p y es q, e = .Call (.Name x p) (y :: es) [] q ∧ glB sc x = true ∧ okName x = true ∧ nmB N sc j y = true ∧ chkA N l sc es = true := by
  cases e <;> first | exact Bool.noConfusion h | skip
  rename_i fn es kw q
  cases fn <;> first | exact Bool.noConfusion h | skip
  rename_i y p
  cases es with
  | nil => exact Bool.noConfusion h
  | cons z es =>
    simp only [chkC, Bool.and_eq_true, decide_eq_true_eq, List.isEmpty_iff] at h
    obtain ⟨⟨⟨⟨⟨h1, h2⟩, h3⟩, h4⟩, h6⟩, h5⟩ := h
    subst h1
    subst h4
    exact ⟨p, z, es, q, rfl, h2, h3, h6, h5⟩
theorem inv_cio {x : Str} {f : List D → List D → Option (D × List D)} {j : Nat} {l : C} {sc : Scope} {e : Expr} (h : chkC N (.cio x f j l) sc e = true) : ∃ p y es q, e = .Call (.Name x p) (y :: es) [] q ∧ glB sc x = true ∧ okName x = true ∧ nmB N sc j y = true ∧ chkA N l sc es = true := by
  cases e <;> first | exact Bool.noConfusion h | skip
  rename_i fn es kw q
  cases fn <;> first | exact Bool.noConfusion h | skip
  rename_i y p
  cases es with
  | nil => exact Bool.noConfusion h
  | cons z es =>
    simp only [chkC, Bool.and_eq_true, decide_eq_true_eq, List.isEmpty_iff] at h
    obtain ⟨⟨⟨⟨⟨h1, h2⟩, h3⟩, h4⟩, h6⟩, h5⟩ := h
    subst h1
    subst h4
    exact ⟨p, z, es, q, rfl, h2, h3, h6, h5⟩
theorem nm_star {j : Nat} {y : Expr} (h : nmB N sc j y = true) : isStar y = false := by
  cases y <;> first | rfl | exact Bool.noConfusion h
theorem ro_ok {st : DS} {σ : L2.St} {H Hs : Hp} {j : Nat} {ns : List Int} (I : SI E.K st σ H Hs) (h : roS st j = some ns) : ∃ a, σ[j]? = some (some (.ref a)) ∧ RO E.K H a ns := by
  unfold roS at h
  split at h
  · rename_i ms hs
    cases h
    exact I.ro j _ hs
  · cases h
theorem go_frz {p : Bool} {st st1 : DS} {σ σ1 : L2.St} {H Hs H1 Hs1 : Hp} (I : SI E.K st σ H Hs) (g : Go p st σ H Hs st1 σ1 H1 Hs1) {a : Addr} {ns : List Int} (h : RO E.K H a ns) : RO E.K H1 a ns :=
  h.mono fun o u z => g.fr a _ (fun w => by
    obtain ⟨i, ds, w1, w2⟩ := w
    obtain ⟨b, xs, q1, q2, _⟩ := I.ow i ds w1
    rw [w2] at q1
    cases q1
    rw [z] at q2; cases q2) z
theorem snd_cro (x : Str) (f : List Int → List D → Option D) (j : Nat) (l : C) (ok : okR E x f) (hl : Snd E N l) : Snd E N (.cro x f j l) := by
  refine mkSnd (fun _ => rfl) (fun _ => rfl) (fun _ _ _ _ => rfl) (fun sc e h => ?_) (fun sc s0 e h st st' d hd σ H Hs I Q k => ?_) (noF rfl)
  · cases e <;> first | rfl | exact Bool.noConfusion h
  · obtain ⟨p, y, es, q, rfl, h1, h2, h4, h3⟩ := inv_cro h
    simp only [evC, Option.bind_eq_some_iff, Option.map_eq_some_iff] at hd
    obtain ⟨ns, e0, ⟨da, st1⟩, e1, dd, e2, e3⟩ := hd
    cases e3
    obtain ⟨n, ⟨fa, fd, ps, ds, m1, m2, m3, m4, m5, m6⟩, hf⟩ := ok
    obtain ⟨a, hv, hro⟩ := ro_ok I e0
    have hlen := hf ns da d e2
    refine up (t := tCall (spRO E.K n f) [] E0 (tCons (tVar j) (wA E N sc s0 es))) (fun X g => pe_call (g.fn m4) g.room (g.gl h1) (by rw [g.emg]; exact m1) (by rw [g.eK]; exact m2) (by rw [g.eK]; exact m5) m6 pass0 (pa_cons (g.nm h4) g.pa (star_ne (nm_star h4))) (ok_debug h2) (star_ne (nm_star h4)) (no_star h3).1) ?_
    refine ⟨_, hv, ?_⟩
    refine hl.A sc s0 es h3 st _ da e1 σ H Hs I _ fun vs H1 Hs1 I1 g1 d1 => ?_
    have hro1 := go_frz I g1 hro
    refine ⟨Hs1, a, ns, vs, da, d, by simp, by simp [dps_len d1]; omega, I1.sub, hro1, d1, e2, fun v H' Hs' q1 q2 q3 q4 q5 => ?_⟩
    refine k v H' Hs' ⟨I1.len, q3, fun i d z => ?_, fun i es z => ?_, I1.ne, fun i ns z => ?_⟩ ⟨fun a o n z => q1 a o (g1.fr a o n z), fun a z => ?_, g1.old.trans q2, fun a o z => ?_, g1.ows, fun z a o w => q1 a o (g1.pu z a o w)⟩ q5
    · obtain ⟨w, w1, w2⟩ := I1.sh i d z
      exact ⟨w, w1, dp_mono q2 _ _ w2⟩
    · obtain ⟨a, xs, w1, w2, w3, w4⟩ := I1.ow i es z
      refine ⟨a, xs, w1, q1 _ _ w2, dps_mono q2 _ _ w3, ?_⟩
      cases r : Hs' a with
      | none => rfl
      | some o =>
        rcases q4 a o r with ⟨u, t⟩ | t
        · rw [w4] at t; cases t
        · rw [w2] at t; cases t
    · obtain ⟨a, w1, w2⟩ := I1.ro i ns z
      exact ⟨a, w1, w2.mono fun o u t => q1 _ _ t⟩
    · cases r : H1 a with
      | none => exact g1.al a r
      | some o => rw [q1 a o r] at z; cases z
    · rcases q4 a o z with ⟨u, t⟩ | t
      · exact g1.new a u t
      · exact .inr (.inl (g1.al a t))
theorem own_ok {st : DS} {σ : L2.St} {H Hs : Hp} {j : Nat} (I : SI E.K st σ H Hs) (h : ownS st j = some ()) : ∃ a, σ[j]? = some (some (.ref a)) := by
  unfold ownS at h
  split at h
  · rename_i ms hs
    obtain ⟨a, xs, h1, _⟩ := I.ow j _ hs
    exact ⟨a, h1⟩
  · cases h
theorem snd_cio (x : Str) (f : List D → List D → Option (D × List D)) (j : Nat) (l : C) (ok : okG E x f) (hl : Snd E N l) : Snd E N (.cio x f j l) := by
  refine mkSnd (fun _ => rfl) (fun _ => rfl) (fun _ _ _ _ => rfl) (fun sc e h => ?_) (fun sc s0 e h st st' d hd σ H Hs I Q k => ?_) (noF rfl)
  · cases e <;> first | rfl | exact Bool.noConfusion h
  · obtain ⟨p, y, es, q, rfl, h1, h2, h4, h3⟩ := inv_cio h
    simp only [evC, Option.bind_eq_some_iff] at hd
    obtain ⟨_, e0, ⟨da, st1⟩, e1, e2⟩ := hd
    simp only at e2
    split at e2
    · rename_i d0 hs1
      simp only [Option.map_eq_some_iff] at e2
      obtain ⟨⟨r, d1'⟩, e2, e3⟩ := e2
      cases e3
      obtain ⟨n, ⟨fa, fd, ps, ds, m1, m2, m3, m4, m5, m6⟩, hf⟩ := ok
      obtain ⟨a, hv⟩ := own_ok I e0
      have hlen := hf d0 da _ e2
      refine up (t := tCall (spIO n f) [] E0 (tCons (tVar j) (wA E N sc s0 es))) (fun X g => pe_call (g.fn m4) g.room (g.gl h1) (by rw [g.emg]; exact m1) (by rw [g.eK]; exact m2) (by rw [g.eK]; exact m5) m6 pass0 (pa_cons (g.nm h4) g.pa (star_ne (nm_star h4))) (ok_debug h2) (star_ne (nm_star h4)) (no_star h3).1) ?_
      refine ⟨_, hv, ?_⟩
      refine hl.A sc s0 es h3 st _ da e1 σ H Hs I _ fun vs H1 Hs1 I1 g1 d1 => ?_
      obtain ⟨a', xs, w1, w2, w3, w4⟩ := I1.ow j d0 hs1
      rw [hv] at w1
      cases w1
      refine ⟨Hs1, a, xs, d0, vs, da, _, d1', by simp, by simp [dps_len d1]; omega, I1.sub, w2, w4, w3, d1, e2, fun v H' Hs' ys q1 q2 q3 q4 q6 q7 q5 => ?_⟩
      have hj : j < st1.length := (List.getElem?_eq_some_iff.mp hs1).1
      have owd : Owd st1 σ a := ⟨j, d0, hs1, hv⟩
      have ha' : Hs' a = none := by
        cases r : Hs' a with
        | none => rfl
        | some o =>
          rcases q4 a o r with ⟨u, t⟩ | t
          · rw [w4] at t; cases t
          · rw [w2] at t; cases t
      refine k v H' Hs' ⟨by rw [List.length_set]; exact I1.len, q3, fun i d z => ?_, fun i es z => ?_, fun i m es fs b hn z1 z2 => ?_, fun i ns z => ?_⟩ ⟨fun b o n z => ?_, fun b z => ?_, g1.old.trans q2, fun b o z => ?_, fun b z => ?_, fun z => Bool.noConfusion z⟩ q5
      · by_cases e : i = j
        · subst e; rw [List.getElem?_set_self hj] at z; cases z
        · rw [List.getElem?_set_ne (Ne.symm e)] at z
          obtain ⟨w, w1, w2⟩ := I1.sh i d z
          exact ⟨w, w1, dp_mono q2 _ _ w2⟩
      · by_cases e : i = j
        · subst e
          rw [List.getElem?_set_self hj] at z
          cases z
          exact ⟨a, ys, hv, q6, q7, ha'⟩
        · rw [List.getElem?_set_ne (Ne.symm e)] at z
          obtain ⟨b, zs, z1, z2, z3, z4⟩ := I1.ow i es z
          have hb : b ≠ a := by
            rintro rfl
            exact I1.ne i j es d0 b e z hs1 z1 hv
          refine ⟨b, zs, z1, q1 _ _ hb z2, dps_mono q2 _ _ z3, ?_⟩
          cases r : Hs' b with
          | none => rfl
          | some o =>
            rcases q4 b o r with ⟨u, t⟩ | t
            · rw [z4] at t; cases t
            · rw [z2] at t; cases t
      · have o1 : ∃ gs, st1[i]? = some (.ow gs) := by
          by_cases e : i = j
          · subst e; exact ⟨_, hs1⟩
          · rw [List.getElem?_set_ne (Ne.symm e)] at z1; exact ⟨_, z1⟩
        have o2 : ∃ gs, st1[m]? = some (.ow gs) := by
          by_cases e : m = j
          · subst e; exact ⟨_, hs1⟩
          · rw [List.getElem?_set_ne (Ne.symm e)] at z2; exact ⟨_, z2⟩
        obtain ⟨g1', o1⟩ := o1
        obtain ⟨g2', o2⟩ := o2
        exact I1.ne i m g1' g2' b hn o1 o2
      · by_cases e : i = j
        · subst e; rw [List.getElem?_set_self hj] at z; cases z
        · rw [List.getElem?_set_ne (Ne.symm e)] at z
          obtain ⟨b, z1, z2⟩ := I1.ro i ns z
          refine ⟨b, z1, z2.mono fun o u t => q1 _ _ ?_ t⟩
          rintro rfl
          rw [w2] at t; cases t
      · have hb : b ≠ a := by
          rintro rfl
          rcases g1.ows b owd with t | t
          · exact n t
          · rw [z] at t; cases t
        exact q1 b o hb (g1.fr b o n z)
      · cases r : H1 b with
        | none => exact g1.al b r
        | some o =>
          by_cases hb : b = a
          · subst hb; rw [q6] at z; cases z
          · rw [q1 b o hb r] at z; cases z
      · rcases q4 b o z with ⟨u, t⟩ | t
        · exact g1.new b u t
        · exact .inr (.inl (g1.al b t))
      · obtain ⟨i, es, z1, z2⟩ := z
        by_cases e : i = j
        · subst e
          rw [hv] at z2
          cases z2
          exact g1.ows a owd
        · rw [List.getElem?_set_ne (Ne.symm e)] at z1
          exact g1.ows b ⟨i, es, z1, z2⟩
    · cases e2
theorem snd_lenR (j : Nat) : Snd E N (.lenR j) := by
  have inv : ∀ {sc : Scope} {e : Expr}, chkC N (.lenR j) sc e = true → ∃ p x q, e = .Call (.Name "len" p) [x] [] q ∧ glB sc "len" = true ∧ nmB N sc j x = true := fun {sc e} h => by
    cases e <;> first | exact Bool.noConfusion h | skip
    rename_i fn es kw q
    cases fn <;> first | exact Bool.noConfusion h | skip
    rename_i y p
    match es, h with
    | [x], h =>
      simp only [chkC, Bool.and_eq_true, decide_eq_true_eq, List.isEmpty_iff] at h
      obtain ⟨⟨⟨h1, h2⟩, h3⟩, h4⟩ := h
      subst h1
      subst h3
      exact ⟨p, x, q, rfl, h2, h4⟩
  refine mkSnd (fun _ => rfl) (fun _ => rfl) (fun _ _ _ _ => rfl) (fun sc e h => ?_) (fun sc s0 e h st st' d hd σ H Hs I Q k => ?_) (noF rfl)
  · cases e <;> first | rfl | exact Bool.noConfusion h
  · obtain ⟨p, x, q, rfl, h1, h2⟩ := inv h
    simp only [evC, Option.map_eq_some_iff] at hd
    obtain ⟨ns, e1, e2⟩ := hd
    cases e2
    obtain ⟨a, hv, hro⟩ := ro_ok I e1
    refine up (t := tCB (fun xs H Q => ∃ p ys, xs = [.ref p] ∧ (SqL E.K H p ys ∨ SqT E.K H p ys) ∧ Q (.int ys.length) H) (tCons (tVar j) tNil)) (fun X g => by
      rw [← g.eK]
      exact pe_callB call_len_seq (g.gl h1) (g.mn (by decide)) PySem.boot_len (pa_cons (g.nm h2) pa_nil (star_ne (nm_star h2))) (by decide) (by decide) (star_ne (nm_star h2)) rfl) ?_
    refine ⟨_, hv, a, _, rfl, .inl hro.sq, ?_⟩
    rw [List.length_map]
    exact k _ H Hs I .refl (.int _)
theorem snd_subR (j : Nat) (i : C) (hi : Snd E N i) : Snd E N (.subR j i) := by
  have inv : ∀ {sc : Scope} {e : Expr}, chkC N (.subR j i) sc e = true → ∃ ea ei p, e = .Subscript ea ei p ∧ isSlc ei = false ∧ nmB N sc j ea = true ∧ chkC N i sc ei = true := fun {sc e} h => by
    cases e <;> first | exact Bool.noConfusion h | skip
    rename_i ea ei p
    simp only [chkC, Bool.and_eq_true, Bool.not_eq_true'] at h
    exact ⟨ea, ei, p, rfl, h.1.1, h.1.2, h.2⟩
  refine mkSnd (fun _ => rfl) (fun _ => rfl) (fun _ _ _ _ => rfl) (fun sc e h => ?_) (fun sc s0 e h st st' d hd σ H Hs I Q k => ?_) (noF rfl)
  · cases e <;> first | rfl | exact Bool.noConfusion h
  · obtain ⟨ea, ei, p, rfl, h0, h1, h2⟩ := inv h
    simp only [evC, Option.bind_eq_some_iff] at hd
    obtain ⟨ns, e0, ⟨di, st2⟩, e2, e3⟩ := hd
    obtain ⟨a, hv, hro⟩ := ro_ok I e0
    cases di with
    | int q =>
      simp only [Option.map_eq_some_iff] at e3
      obtain ⟨m, e5, e6⟩ := e3
      cases e6
      refine up (t := tOp (rIxL E.K) (tVar j) (wE E N sc s0 ei)) (fun X g => by rw [← g.eK]; exact pe_ix ix_list (g.nm h1) g.pe (plainIx h0)) ?_
      refine ⟨_, hv, ?_⟩
      refine hi.C sc s0 ei h2 st _ (.int q) e2 σ H Hs I _ fun u H2 Hs2 I2 g2 d2 => ?_
      cases d2
      have hat : atI (ns.map V.int) q = some (.int m) := by
        unfold atI at e5 ⊢
        rw [List.length_map]
        simp only [Option.bind_eq_some_iff] at e5
        obtain ⟨z, e5, e6⟩ := e5
        rw [e5]
        show (ns.map V.int)[z]? = _
        rw [List.getElem?_map, e6]
        rfl
      exact ⟨a, _, q, _, rfl, rfl, (go_frz I g2 hro).sq, hat, k _ H2 Hs2 I2 g2 (.int _)⟩
    | _ => cases e3

theorem ret_new {p : Bool} {st st1 : DS} {σ : L2.St} {H Hs H1 Hs1 H' Hs' : Hp} (I1 : SI E.K st1 σ H1 Hs1) (g1 : Go p st σ H Hs st1 σ H1 Hs1) (q1 : Same H1 H') (q2 : Same Hs1 Hs') (q3 : Same Hs' H') (q4 : ∀ a o, Hs' a = some o → (∃ u, Hs1 a = some u) ∨ H1 a = none) :
    SI E.K st1 σ H' Hs' ∧ Go p st σ H Hs st1 σ H' Hs' := by
  refine ⟨⟨I1.len, q3, fun i d z => ?_, fun i es z => ?_, I1.ne, fun i ns z => ?_⟩, ⟨fun a o n z => q1 a o (g1.fr a o n z), fun a z => ?_, g1.old.trans q2, fun a o z => ?_, g1.ows, fun z a o w => q1 a o (g1.pu z a o w)⟩⟩
  · obtain ⟨w, w1, w2⟩ := I1.sh i d z
    exact ⟨w, w1, dp_mono q2 _ _ w2⟩
  · obtain ⟨a, xs, w1, w2, w3, w4⟩ := I1.ow i es z
    refine ⟨a, xs, w1, q1 _ _ w2, dps_mono q2 _ _ w3, ?_⟩
    cases r : Hs' a with
    | none => rfl
    | some o =>
      rcases q4 a o r with ⟨u, t⟩ | t
      · rw [w4] at t; cases t
      · rw [w2] at t; cases t
  · obtain ⟨a, w1, w2⟩ := I1.ro i ns z
    exact ⟨a, w1, w2.mono fun o u t => q1 _ _ t⟩
  · cases r : H1 a with
    | none => exact g1.al a r
    | some o => rw [q1 a o r] at z; cases z
  · rcases q4 a o z with ⟨u, t⟩ | t
    · exact g1.new a u t
    · exact .inr (.inl (g1.al a t))
theorem inv_callN {x : Str} {f : List D → Option (List D)} {l : C} {sc : Scope} {e : Expr} (h : chkC N (.callN x f l) sc e = true) : ∃ p y es q, e = .Call (.Name x p) (y :: es) [] q ∧ glB sc x = true ∧ okName x = true ∧ chkA N l sc (y :: es) = true := by
  cases e <;> first | exact Bool.noConfusion h | skip
  rename_i fn es kw q
  cases fn <;> first | exact Bool.noConfusion h | skip
  rename_i y p
  cases es with
  | nil => exact Bool.noConfusion h
  | cons z es =>
    simp only [chkC, Bool.and_eq_true, decide_eq_true_eq, List.isEmpty_iff] at h
    obtain ⟨⟨⟨⟨h1, h2⟩, h3⟩, h4⟩, h5⟩ := h
    subst h1
    subst h4
    exact ⟨p, z, es, q, rfl, h2, h3, h5⟩
theorem snd_callN (x : Str) (f : List D → Option (List D)) (l : C) (ok : okN E x f) (hl : Snd E N l) : Snd E N (.callN x f l) := by
  refine mkSndF (fun _ => rfl) (fun _ => rfl) (fun _ _ _ _ => rfl) (fun sc e h => ?_) (fun st st' d hd => ?_) (fun sc s0 e h st st' d hd σ H Hs I Q k => ?_)
  · cases e <;> first | rfl | exact Bool.noConfusion h
  · simp only [evC, Option.bind_eq_some_iff, Option.map_eq_some_iff] at hd
    obtain ⟨r, e1, ds, e2, e3⟩ := hd
    cases e3
    exact ⟨_, rfl⟩
  · obtain ⟨p, y, es, q, rfl, h1, h2, h3⟩ := inv_callN h
    simp only [evC, Option.bind_eq_some_iff, Option.map_eq_some_iff] at hd
    obtain ⟨⟨da, st1⟩, e1, dd, e2, e3⟩ := hd
    cases e3
    obtain ⟨n, ⟨fa, fd, ps, ds, m1, m2, m3, m4, m5, m6⟩, hf⟩ := ok
    have f2 := hf da _ e2
    refine up (t := tCall (spN n f) [] E0 (wA E N sc s0 (y :: es))) (fun X g => pe_call (g.fn m4) g.room (g.gl h1) (by rw [g.emg]; exact m1) (by rw [g.eK]; exact m2) (by rw [g.eK]; exact m5) m6 pass0 g.pa (ok_debug h2) (head_star h3) (tail_star h3)) ?_
    refine hl.A sc s0 (y :: es) h3 st _ da e1 σ H Hs I _ fun vs H1 Hs1 I1 g1 d1 => ?_
    refine ⟨Hs1, da, _, by rw [List.append_nil, dps_len d1, f2], I1.sub, by rw [List.append_nil]; exact d1, e2, fun a xs H' Hs' q1 q2 q3 q4 q5 q6 q7 q8 => ?_⟩
    obtain ⟨I2, g2⟩ := ret_new I1 g1 q1 q2 q3 q4
    exact k a xs H' Hs' I2 g2 (g1.al a q5) q6 q7 (fun o => I1.noOw q5 o) q8
theorem inv_croN {x : Str} {f : List Int → List D → Option (List D)} {j : Nat} {l : C} {sc : Scope} {e : Expr} (h : chkC N (.croN x f j l) sc e = true) : ∃ p y es q, e = .Call (.Name x p) (y :: es) [] q ∧ glB sc x = true ∧ okName x = true ∧ nmB N sc j y = true ∧ chkA N l sc es = true := by
  cases e <;> first | exact Bool.noConfusion h | skip
  rename_i fn es kw q
  cases fn <;> first | exact Bool.noConfusion h | skip
  rename_i y p
  cases es with
  | nil => exact Bool.noConfusion h
  | cons z es =>
    simp only [chkC, Bool.and_eq_true, decide_eq_true_eq, List.isEmpty_iff] at h
    obtain ⟨⟨⟨⟨⟨h1, h2⟩, h3⟩, h4⟩, h6⟩, h5⟩ := h
    subst h1
    subst h4
    exact ⟨p, z, es, q, rfl, h2, h3, h6, h5⟩
theorem snd_croN (x : Str) (f : List Int → List D → Option (List D)) (j : Nat) (l : C) (ok : okRN E x f) (hl : Snd E N l) : Snd E N (.croN x f j l) := by
  refine mkSndF (fun _ => rfl) (fun _ => rfl) (fun _ _ _ _ => rfl) (fun sc e h => ?_) (fun st st' d hd => ?_) (fun sc s0 e h st st' d hd σ H Hs I Q k => ?_)
  · cases e <;> first | rfl | exact Bool.noConfusion h
  · simp only [evC, Option.bind_eq_some_iff, Option.map_eq_some_iff] at hd
    obtain ⟨ns, e0, r, e1, ds, e2, e3⟩ := hd
    cases e3
    exact ⟨_, rfl⟩
  · obtain ⟨p, y, es, q, rfl, h1, h2, h4, h3⟩ := inv_croN h
    simp only [evC, Option.bind_eq_some_iff, Option.map_eq_some_iff] at hd
    obtain ⟨ns, e0, ⟨da, st1⟩, e1, dd, e2, e3⟩ := hd
    cases e3
    obtain ⟨n, ⟨fa, fd, ps, ds, m1, m2, m3, m4, m5, m6⟩, hf⟩ := ok
    obtain ⟨a, hv, hro⟩ := ro_ok I e0
    have hlen := hf ns da _ e2
    refine up (t := tCall (spRN E.K n f) [] E0 (tCons (tVar j) (wA E N sc s0 es))) (fun X g => pe_call (g.fn m4) g.room (g.gl h1) (by rw [g.emg]; exact m1) (by rw [g.eK]; exact m2) (by rw [g.eK]; exact m5) m6 pass0 (pa_cons (g.nm h4) g.pa (star_ne (nm_star h4))) (ok_debug h2) (star_ne (nm_star h4)) (no_star h3).1) ?_
    refine ⟨_, hv, ?_⟩
    refine hl.A sc s0 es h3 st _ da e1 σ H Hs I _ fun vs H1 Hs1 I1 g1 d1 => ?_
    refine ⟨Hs1, a, ns, vs, da, _, by simp, by simp [dps_len d1]; omega, I1.sub, go_frz I g1 hro, d1, e2, fun b xs H' Hs' q1 q2 q3 q4 q5 q6 q7 q8 => ?_⟩
    obtain ⟨I2, g2⟩ := ret_new I1 g1 q1 q2 q3 q4
    exact k b xs H' Hs' I2 g2 (g1.al b q5) q6 q7 (fun o => I1.noOw q5 o) q8
/-! ### nothing is told of what was only looked at -/
theorem snd_fx (a : C) (ha : Snd E N a) : Snd E N (.fx a) := by
  have cr : ∀ {p : Bool} {st st1 : DS} {σ : L2.St} {H Hs H1 Hs1 : Hp}, SI E.K st σ H Hs → p = true → SI E.K st1 σ H1 Hs1 → Go p st σ H Hs st1 σ H1 Hs1 → SI E.K st σ H1 Hs ∧ Go p st σ H Hs st σ H1 Hs := fun {p st st1 σ H Hs H1 Hs1} I e I1 g => by
    have s := g.pu e
    refine ⟨⟨I.len, I.sub.trans s, I.sh, fun i ds z => ?_, I.ne, fun i ns z => ?_⟩, ⟨fun b o _ z => s b o z, g.al, fun _ _ z => z, fun b o z => .inl ⟨o, z⟩, fun b z => .inl z, fun _ => s⟩⟩
    · obtain ⟨b, xs, z1, z2, z3, z4⟩ := I.ow i ds z
      exact ⟨b, xs, z1, s _ _ z2, z3, z4⟩
    · obtain ⟨b, z1, z2⟩ := I.ro i ns z
      exact ⟨b, z1, z2.mono fun o u t => s _ _ t⟩
  refine ⟨fun sc s0 e h st st' d hd σ H Hs I Q k => ?_, noF rfl, fun sc s0 e h st st' d hd σ H Hs I Q k => ?_, fun sc s0 op vs p h st st' d hd σ H Hs I Q k => ?_, noA_of fun _ => rfl, noI_of fun _ => rfl⟩
  · have h' : pureC a = true ∧ chkC N a sc e = true := by
      have : (pureC a && chkC N a sc e) = true := by cases e <;> exact h
      simpa [Bool.and_eq_true] using this
    simp only [evC, Option.map_eq_some_iff] at hd
    obtain ⟨⟨da, st1⟩, e1, e2⟩ := hd
    refine ha.C sc s0 e h'.2 st st1 da e1 σ H Hs I _ fun v H1 Hs1 I1 g1 d1 => ?_
    simp only at e2
    split at e2
    · rename_i hf
      cases e2
      obtain ⟨I2, g2⟩ := cr I h'.1 I1 g1
      exact k v H1 Hs I2 g2 (flat_any hf d1)
    · cases e2
      exact k v H1 Hs1 I1 g1 d1
  · have h' : pureC a = true ∧ chkC N a sc e = true := by
      have : (pureC a && chkC N a sc e) = true := by cases e <;> exact h
      simpa [Bool.and_eq_true] using this
    simp only [evC, Option.map_eq_some_iff] at hd
    obtain ⟨⟨da, st1⟩, e1, e2⟩ := hd
    simp only at e2
    split at e2
    · rename_i hf
      cases e2
      exact ha.T sc s0 e h'.2 st st1 d e1 σ H Hs I _ fun H1 Hs1 I1 g1 => by
        obtain ⟨I2, g2⟩ := cr I h'.1 I1 g1
        exact k H1 Hs I2 g2
    · cases e2
      exact ha.T sc s0 e h'.2 st _ d e1 σ H Hs I _ k
  · have h' : pureC a = true ∧ chkC N a sc (.BoolOp op vs p) = true := by
      have : (pureC a && chkC N a sc (.BoolOp op vs p)) = true := h
      simpa [Bool.and_eq_true] using this
    simp only [evC, Option.map_eq_some_iff] at hd
    obtain ⟨⟨da, st1⟩, e1, e2⟩ := hd
    simp only at e2
    split at e2
    · rename_i hf
      cases e2
      exact ha.W sc s0 op vs p h'.2 st st1 d e1 σ H Hs I _ fun H1 Hs1 I1 g1 => by
        obtain ⟨I2, g2⟩ := cr I h'.1 I1 g1
        exact k H1 Hs I2 g2
    · cases e2
      exact ha.W sc s0 op vs p h'.2 st _ d e1 σ H Hs I _ k
end
end Sm

set_option Elab.async false
set_option linter.all false
set_option maxRecDepth 100000
set_option maxHeartbeats 4000000
namespace Sm
open PySem PySem.Spec PyProof.Rows L2
section
variable {E : En} {N : List Str} {sc s0 : Scope} {c a b d : C}
/-! ### what is walked -/
theorem mkI (hA : ∀ st, evA c st = none) (hC : ∀ st, evC c st = none) (hF : freshC c = false) (hI : ∀ (sc s0 : Scope) (e tg : Expr), chkI N c sc e = true → tgOk c tg = true → ∀ st st' ds, evI c st = some (ds, st') → ∀ σ H Hs, SI E.K st σ H Hs → ∀ R, AftI E.K (pureC c) st σ H Hs st' ds R → wI E N sc s0 tg e σ H R) : Snd E N c where
  C := fun sc s0 e h st st' d hd => absurd hd (by rw [hC]; simp)
  F := noF hF
  T := fun sc s0 e h st st' d hd => absurd hd (by rw [hC]; simp)
  W := fun sc s0 op vs p h st st' d hd => absurd hd (by rw [hC]; simp)
  A := noA_of hA
  I := hI
theorem iok_list {Hs : Hp} {a : Addr} {xs : List V} {ds : List D} {K : PySem.W.Frag} (h : Rd Hs a (.lst xs)) (hx : DpAll [] Hs xs ds) : Iok ds (Itl K a) Hs := by
  refine ⟨fun H => SqL K H a xs, YAt xs, by rw [← dps_len hx]; exact walk_list, fun H2 Hs2 e1 e2 => .inl (rd_up e2 (rd_up e1 h)), fun i x H2 H3 Hs2 hi e1 e2 y => ?_⟩
  obtain ⟨y1, y2⟩ := y
  have hi' : ds[i]? = some ds[i] := List.getElem?_eq_getElem hi
  obtain ⟨v, w1, w2⟩ := dps_get hx hi'
  rw [y2] at w1
  cases w1
  exact ⟨_, hi', .inl ⟨y1, dp_mono e1 _ _ w2⟩⟩
theorem iok_tup {Hs : Hp} {a : Addr} {xs : List V} {ds : List D} {K : PySem.W.Frag} (h : Rd Hs a (.tup xs)) (hx : DpAll [] Hs xs ds) : Iok ds (Itt K a) Hs := by
  refine ⟨fun H => SqT K H a xs, YAt xs, by rw [← dps_len hx]; exact walk_tup, fun H2 Hs2 e1 e2 => .inl (rd_up e2 (rd_up e1 h)), fun i x H2 H3 Hs2 hi e1 e2 y => ?_⟩
  obtain ⟨y1, y2⟩ := y
  have hi' : ds[i]? = some ds[i] := List.getElem?_eq_getElem hi
  obtain ⟨v, w1, w2⟩ := dps_get hx hi'
  rw [y2] at w1
  cases w1
  exact ⟨_, hi', .inl ⟨y1, dp_mono e1 _ _ w2⟩⟩
theorem rngD_len (lo c : Int) (n : Nat) : (rngD lo c n).length = n := by simp [rngD]
theorem rngD_get (lo c : Int) (n : Nat) {i : Nat} (h : i < n) : (rngD lo c n)[i]? = some (.int (lo + (i : Int) * c)) := by
  simp [rngD, h]
theorem iok_rng {Hs : Hp} {lo : Int} {n : Nat} : Iok (rngD lo 1 n) (Itr lo n) Hs := by
  refine ⟨fun _ => True, YFn fun i => .int (lo + i), by rw [rngD_len]; exact walk_range, fun _ _ _ _ => trivial, fun i x H2 H3 Hs2 hi e1 e2 y => ?_⟩
  rw [rngD_len] at hi
  obtain ⟨y1, y2⟩ := y
  refine ⟨_, rngD_get lo 1 n hi, .inl ⟨y1, ?_⟩⟩
  rw [y2, Int.mul_one]
  exact .int _
theorem iok_rngC {Hs : Hp} {lo c : Int} {n : Nat} : Iok (rngD lo c n) (Itc lo c n) Hs := by
  refine ⟨fun _ => True, YFn fun i => .int (lo + (i : Nat) * c), by rw [rngD_len]; exact walk_rangeC, fun _ _ _ _ => trivial, fun i x H2 H3 Hs2 hi e1 e2 y => ?_⟩
  rw [rngD_len] at hi
  obtain ⟨y1, y2⟩ := y
  refine ⟨_, rngD_get lo c n hi, .inl ⟨y1, ?_⟩⟩
  rw [y2]
  exact .int _
theorem enumFrom_len : ∀ (ds : List D) (i : Int), (enumFrom i ds).length = ds.length
  | [], _ => rfl
  | _ :: r, i => by simp [enumFrom, enumFrom_len r]
theorem enumFrom_get : ∀ (ds : List D) (k : Int) {i : Nat} {d : D}, ds[i]? = some d → (enumFrom k ds)[i]? = some (.tuple [.int (k + i), d])
  | [], _, _, _, h => by simp at h
  | e :: r, k, 0, d, h => by
    simp at h
    subst h
    simp [enumFrom]
  | e :: r, k, i + 1, d, h => by
    have := enumFrom_get r (k + 1) (i := i) (d := d) (by simpa using h)
    show (enumFrom (k + 1) r)[i]? = _
    have e2 : k + 1 + (i : Int) = k + ((i + 1 : Nat) : Int) := by omega
    rw [this, e2]
theorem iok_enum {Hs : Hp} {a : Addr} {xs : List V} {ds : List D} {K : PySem.W.Frag} (h : Rd Hs a (.lst xs)) (hx : DpAll [] Hs xs ds) : Iok (enumFrom 0 ds) (Ite K a) Hs := by
  refine ⟨fun H => SqL K H a xs, _, by rw [enumFrom_len, ← dps_len hx]; exact walk_enum, fun H2 Hs2 e1 e2 => .inl (rd_up e2 (rd_up e1 h)), fun i x H2 H3 Hs2 hi e1 e2 y => ?_⟩
  rw [enumFrom_len] at hi
  obtain ⟨t, x1, x2, y1, y2, y3, y4, y5⟩ := y
  have hi' : ds[i]? = some ds[i] := List.getElem?_eq_getElem hi
  obtain ⟨v, w1, w2⟩ := dps_get hx hi'
  have y5' : xs[i]? = some x2 := y5
  rw [y5'] at w1
  cases w1
  have y4' : some (V.int (i : Int)) = some x1 := y4
  cases y4'
  refine ⟨_, enumFrom_get ds 0 hi', .inr ⟨t, _, _, _, _, y1, y2, y3, rfl, ?_, dp_mono e1 _ _ w2⟩⟩
  rw [Int.zero_add]
  exact .int _
theorem zipD_len : ∀ (xs ys : List D), (zipD xs ys).length = min xs.length ys.length
  | [], _ => by simp [zipD]
  | _ :: _, [] => by simp [zipD]
  | _ :: r, _ :: s => by
    simp only [zipD, List.length_cons, zipD_len r s]
    omega
theorem zipD_get : ∀ (xs ys : List D) {i : Nat} {d e : D}, xs[i]? = some d → ys[i]? = some e → (zipD xs ys)[i]? = some (.tuple [d, e])
  | [], _, _, _, _, h, _ => by simp at h
  | _ :: _, [], _, _, _, _, h => by simp at h
  | a :: r, b :: s, 0, d, e, h1, h2 => by
    simp at h1 h2
    subst h1
    subst h2
    simp [zipD]
  | a :: r, b :: s, i + 1, d, e, h1, h2 => zipD_get r s (i := i) (by simpa using h1) (by simpa using h2)
theorem iok_zip {Hs : Hp} {a b : Addr} {xs ys : List V} {ds es : List D} {K : PySem.W.Frag} (h : Rd Hs a (.lst xs)) (hx : DpAll [] Hs xs ds) (h' : Rd Hs b (.lst ys)) (hy : DpAll [] Hs ys es) : Iok (zipD ds es) (Itz K a b) Hs := by
  refine ⟨fun H => SqL K H a xs ∧ SqL K H b ys, _, walk_zip (by rw [zipD_len, dps_len hx, dps_len hy]), fun H2 Hs2 e1 e2 => ⟨.inl (rd_up e2 (rd_up e1 h)), .inl (rd_up e2 (rd_up e1 h'))⟩, fun i x H2 H3 Hs2 hi e1 e2 y => ?_⟩
  rw [zipD_len] at hi
  obtain ⟨t, x1, x2, y1, y2, y3, y4, y5⟩ := y
  have h1 : ds[i]? = some (ds[i]'(by omega)) := List.getElem?_eq_getElem (by omega)
  have h2 : es[i]? = some (es[i]'(by omega)) := List.getElem?_eq_getElem (by omega)
  obtain ⟨v, w1, w2⟩ := dps_get hx h1
  obtain ⟨u, w3, w4⟩ := dps_get hy h2
  have y4' : xs[i]? = some x1 := y4
  have y5' : ys[i]? = some x2 := y5
  rw [y4'] at w1
  cases w1
  rw [y5'] at w3
  cases w3
  exact ⟨_, zipD_get ds es h1 h2, .inr ⟨t, _, _, _, _, y1, y2, y3, rfl, dp_mono e1 _ _ w2, dp_mono e1 _ _ w4⟩⟩
theorem snd_seq (a : C) (ha : Snd E N a) : Snd E N (.seq a) := by
  refine mkI (fun _ => rfl) (fun _ => rfl) rfl fun sc s0 e tg h ht st st' ds hd σ H Hs I R k => ?_
  have h' : chkC N a sc e = true := by cases e <;> exact h
  simp only [evI, Option.bind_eq_some_iff] at hd
  obtain ⟨⟨da, st1⟩, e1, e2⟩ := hd
  cases da with
  | list l =>
    cases e2
    refine upI (t := iList E.K (wE E N sc s0 e)) (fun X g => by rw [← g.eK]; exact pi_list g.pe) ?_
    refine ha.C sc s0 e h' st _ _ e1 σ H Hs I _ fun v H1 Hs1 I1 g1 d1 => ?_
    cases d1 with
    | lst hs hl => exact ⟨_, rfl, ⟨_, .inl (rd_up I1.sub (dp_rd hs))⟩, k _ H1 Hs1 I1 g1 (iok_list (dp_rd hs) hl)⟩
  | tuple l =>
    cases e2
    refine upI (t := iTup E.K (wE E N sc s0 e)) (fun X g => by rw [← g.eK]; exact pi_tup g.pe) ?_
    refine ha.C sc s0 e h' st _ _ e1 σ H Hs I _ fun v H1 Hs1 I1 g1 d1 => ?_
    cases d1 with
    | tup hs hl => exact ⟨_, rfl, ⟨_, .inl (rd_up I1.sub (dp_rt hs))⟩, k _ H1 Hs1 I1 g1 (iok_tup (dp_rt hs) hl)⟩
  | _ => cases e2
theorem isTup_of {tg : Expr} (h : isTup tg = true) : ∃ es k p, tg = .Tuple es k p := by
  cases tg <;> first | exact ⟨_, _, _, rfl⟩ | exact Bool.noConfusion h
theorem snd_enum (a : C) (ha : Snd E N a) : Snd E N (.enum a) := by
  refine mkI (fun _ => rfl) (fun _ => rfl) rfl fun sc s0 e tg h ht st st' ds hd σ H Hs I R k => ?_
  obtain ⟨ts, kk, tp, rfl⟩ := isTup_of ht
  cases e <;> first | exact Bool.noConfusion h | skip
  rename_i fn es kw q
  cases fn <;> first | exact Bool.noConfusion h | skip
  rename_i y p
  match es, h with
  | [x], h =>
    simp only [chkI, Bool.and_eq_true, decide_eq_true_eq, List.isEmpty_iff, Bool.not_eq_true'] at h
    obtain ⟨⟨⟨⟨h1, h2⟩, h3⟩, h4⟩, h5⟩ := h
    subst h1
    subst h3
    simp only [evI, Option.bind_eq_some_iff] at hd
    obtain ⟨⟨da, st1⟩, e1, e2⟩ := hd
    cases da with
    | list l =>
      cases e2
      refine upI (t := iEnum E.K (tCons (wE E N sc s0 x) tNil)) (fun X g => by rw [← g.eK]; exact pi_enum (g.gl h2) (g.mn (by decide)) (pa_cons g.pe pa_nil (star_ne h4)) (star_ne h4)) ?_
      refine ha.C sc s0 x h5 st _ _ e1 σ H Hs I _ fun v H1 Hs1 I1 g1 d1 => ?_
      cases d1 with
      | lst hs hl => exact ⟨_, _, rfl, .inl (rd_up I1.sub (dp_rd hs)), k _ H1 Hs1 I1 g1 (iok_enum (dp_rd hs) hl)⟩
    | _ => cases e2
theorem snd_zip (a b : C) (ha : Snd E N a) (hb : Snd E N b) : Snd E N (.zip a b) := by
  refine mkI (fun _ => rfl) (fun _ => rfl) rfl fun sc s0 e tg h ht st st' ds hd σ H Hs I R k => ?_
  obtain ⟨ts, kk, tp, rfl⟩ := isTup_of ht
  cases e <;> first | exact Bool.noConfusion h | skip
  rename_i fn es kw q
  cases fn <;> first | exact Bool.noConfusion h | skip
  rename_i y p
  match es, h with
  | [x, x2], h =>
    simp only [chkI, Bool.and_eq_true, decide_eq_true_eq, List.isEmpty_iff, Bool.not_eq_true'] at h
    obtain ⟨⟨⟨⟨⟨⟨h1, h2⟩, h3⟩, h4⟩, h6⟩, h5⟩, h7⟩ := h
    subst h1
    subst h3
    simp only [evI, Option.bind_eq_some_iff] at hd
    obtain ⟨⟨da, st1⟩, e1, ⟨db, st2⟩, e3, e2⟩ := hd
    cases da with
    | list l =>
      cases db with
      | list m =>
        cases e2
        refine upI (t := iZip E.K (tCons (wE E N sc s0 x) (tCons (wE E N sc s0 x2) tNil))) (fun X g => by rw [← g.eK]; exact pi_zip (g.gl h2) (g.mn (by decide)) (pa_cons g.pe (pa_cons g.pe pa_nil (star_ne h6)) (star_ne h4)) (star_ne h4) (by rw [star_ne h6]; rfl)) ?_
        refine ha.C sc s0 x h5 st st1 _ e1 σ H Hs I _ fun v H1 Hs1 I1 g1 d1 => ?_
        refine hb.C sc s0 x2 h7 st1 _ _ e3 σ H1 Hs1 I1 _ fun u H2 Hs2 I2 g2 d2 => ?_
        have d1' := g2.dp d1
        cases d1' with
        | lst hs hl =>
          cases d2 with
          | lst hs' hl' => exact ⟨_, _, _, _, rfl, .inl (rd_up I2.sub (dp_rd hs)), .inl (rd_up I2.sub (dp_rd hs')), k _ H2 Hs2 I2 (g1.trans g2) (iok_zip (dp_rd hs) hl (dp_rd hs') hl')⟩
      | _ => cases e2
    | _ => cases e2
theorem inR_of {i : Int} (h : inR i = true) : -(2 ^ 62) ≤ i ∧ i < 2 ^ 62 := by
  cases i with
  | ofNat n =>
    have h2 : n < 2 ^ 62 := of_decide_eq_true h
    have e : Int.ofNat n = (n : Int) := rfl
    omega
  | negSucc n =>
    have h2 : n < 2 ^ 62 := of_decide_eq_true h
    omega
theorem inR_mk {i : Int} (h : -(2 ^ 62) ≤ i) (h2 : i < 2 ^ 62) : inR i = true := by
  cases i with
  | ofNat n =>
    have e : Int.ofNat n = (n : Int) := rfl
    exact decide_eq_true (p := n < 2 ^ 62) (by omega)
  | negSucc n => exact decide_eq_true (p := n < 2 ^ 62) (by omega)
theorem snd_rng (l : C) (hl : Snd E N l) : Snd E N (.rng l) := by
  refine mkI (fun _ => rfl) (fun _ => rfl) rfl fun sc s0 e tg h ht st st' ds hd σ H Hs I R k => ?_
  cases e <;> first | exact Bool.noConfusion h | skip
  rename_i fn es kw q
  cases fn <;> first | exact Bool.noConfusion h | skip
  rename_i y p
  match es, h with
  | x :: es, h =>
    simp only [chkI, Bool.and_eq_true, decide_eq_true_eq, List.isEmpty_iff, Bool.not_eq_true'] at h
    obtain ⟨⟨⟨h1, h2⟩, h3⟩, h4⟩ := h
    subst h1
    subst h3
    simp only [evI, Option.bind_eq_some_iff] at hd
    obtain ⟨⟨da, st1⟩, e1, e2⟩ := hd
    -- how many arguments
    have len : ∀ {l : C} {es : List Expr} {st st' : DS} {ds : List D}, chkA N l sc es = true → evA l st = some (ds, st') → es.length = ds.length := by
      intro l
      induction l with
      | anil =>
        intro es st st' ds h e
        cases es with
        | nil => cases e; rfl
        | cons _ _ => exact absurd h (by simp [chkA])
      | acons a l _ ih =>
        intro es st st' ds h e
        cases es with
        | nil => exact absurd h (by simp [chkA])
        | cons x es =>
          simp only [chkA, Bool.and_eq_true] at h
          simp only [evA, Option.bind_eq_some_iff, Option.map_eq_some_iff] at e
          obtain ⟨⟨z1, z2⟩, w1, ⟨z3, z4⟩, w2, w3⟩ := e
          cases w3
          simp only [List.length_cons]
          rw [ih h.2 w2]
      | _ => intro es st st' ds h e; exact absurd (show (none : Option (List D × DS)) = _ from e) (by simp)
    have hlen := len h4 e1
    have hst : ∀ env : Env, starEach (x :: es) env = (false, eval x env) :: starEach es env := fun env => head_star h4
    match da, e2 with
    | [.int n], e2 =>
      simp only at e2
      split at e2
      · rename_i hn
        cases e2
        match es, hlen with
        | [], _ =>
          refine upI (t := iRng1 (wA E N sc s0 [x])) (fun X g => pi_range1 (g.gl h2) (g.mn (by decide)) g.pa (hst _)) ?_
          refine hl.A sc s0 [x] h4 st _ _ e1 σ H Hs I _ fun vs H1 Hs1 I1 g1 d1 => ?_
          obtain ⟨v, rfl, hv⟩ := dps1 d1
          cases hv
          exact ⟨n, rfl, (inR_of hn).1, (inR_of hn).2, k _ H1 Hs1 I1 g1 iok_rng⟩
      · cases e2
    | [.int i, .int j], e2 =>
      simp only at e2
      split at e2
      · rename_i hn
        rw [Bool.and_eq_true] at hn
        cases e2
        match es, hlen with
        | [x2], _ =>
          have hst2 : ∀ env : Env, starEach [x2] env = [(false, eval x2 env)] := fun env => by
            cases l with
            | acons a l =>
              simp only [chkA, Bool.and_eq_true] at h4
              exact head_star h4.2
            | _ => exact absurd h4 (by simp [chkA])
          refine upI (t := iRng2 (wA E N sc s0 [x, x2])) (fun X g => pi_range2 (g.gl h2) (g.mn (by decide)) g.pa (by rw [hst, hst2]) (hst2 _)) ?_
          refine hl.A sc s0 [x, x2] h4 st _ _ e1 σ H Hs I _ fun vs H1 Hs1 I1 g1 d1 => ?_
          obtain ⟨v, u, rfl, hv, hu⟩ := dps2 d1
          cases hv
          cases hu
          exact ⟨i, j, rfl, ⟨(inR_of hn.1).1, (inR_of hn.1).2, (inR_of hn.2).1, (inR_of hn.2).2⟩, k _ H1 Hs1 I1 g1 iok_rng⟩
      · cases e2
    | [.int i, .int j, .int m], e2 =>
      simp only at e2
      split at e2
      · rename_i hn
        rw [Bool.and_eq_true, Bool.and_eq_true, decide_eq_true_eq] at hn
        obtain ⟨⟨hi, hj⟩, rfl⟩ := hn
        cases e2
        match es, hlen with
        | [x2, x3], _ =>
          refine upI (t := iRng3 (wA E N sc s0 [x, x2, x3])) (fun X g => pi_range3 (g.gl h2) (g.mn (by decide)) g.pa (hst _) (tail_star h4)) ?_
          refine hl.A sc s0 [x, x2, x3] h4 st _ _ e1 σ H Hs I _ fun vs H1 Hs1 I1 g1 d1 => ?_
          cases d1 with
          | cons w1 w2 =>
            obtain ⟨v, u, rfl, hv, hu⟩ := dps2 w2
            cases w1
            cases hv
            cases hu
            exact ⟨i, j, -1, (i - j).toNat, rfl, RgC.neg (inR_of hi).1 (inR_of hi).2 (inR_of hj).1 (inR_of hj).2, k _ H1 Hs1 I1 g1 iok_rngC⟩
      · cases e2
end
end Sm

set_option Elab.async false
set_option linter.all false
set_option maxRecDepth 100000
set_option maxHeartbeats 4000000
namespace Sm
open PySem PySem.Spec PyProof.Rows L2
/-! ### targets -/
def tlen : T → Nat
  | .cons _ t => tlen t + 1
  | _ => 0
mutual
def gT (K : PySem.W.Frag) : T → TG
  | .nm i => gName i
  | .tp l => gTup K (tlen l) (gTs K l)
  | _ => fun _ _ _ _ => False
def gTs (K : PySem.W.Frag) : T → TGs
  | .nil => gNil
  | .cons h t => gCons (gT K h) (gTs K t)
  | _ => fun _ _ _ _ => False
end
theorem assign_ne {e : Expr} {es : List Expr} {env : Env} (h : isStar e = false) : assignEach (e :: es) env = (false, assign e env) :: assignEach es env := by
  cases e <;> first | rfl | exact Bool.noConfusion h
section
variable {E : En} {N : List Str} {sc s0 : Scope}
theorem chkTs_env {own : List Nat} {env : Env} : ∀ {t : T} {es : List Expr}, chkTs N t s0 own es = true → (assignEach es env).length = tlen t ∧ (assignEach es env).findIdx? (·.1) = none
  | t, [], h => by
    cases t with
    | nil => exact ⟨rfl, rfl⟩
    | _ => exact absurd h (by simp [chkTs])
  | t, e :: es, h => by
    cases t with
    | cons a b =>
      simp only [chkTs, Bool.and_eq_true, Bool.not_eq_true'] at h
      obtain ⟨i1, i2⟩ := chkTs_env (env := env) h.2
      rw [assign_ne h.1.1]
      refine ⟨by simp only [List.length_cons, i1, tlen], ?_⟩
      rw [List.findIdx?_cons]
      simp [i2]
    | _ => exact absurd h (by simp [chkTs])
mutual
theorem pg_T {X : Cx} (g : Gd E N sc s0 X) {own : List Nat} : ∀ (t : T) {tg : Expr}, chkT N t s0 own tg = true → PG X tg (gT E.K t)
  | .nm i, tg, h => by
    cases tg <;> first | exact Bool.noConfusion h | skip
    rename_i x p
    simp only [chkT, Bool.and_eq_true, decide_eq_true_eq] at h
    obtain ⟨⟨h1, h2⟩, h3⟩ := h
    obtain ⟨q1, q2⟩ := g.stor x h2
    show PG X _ (gName i)
    exact pg_name (by rw [g.eN]; exact g.nd) (by rw [g.eN]; exact h1) q1 q2
  | .tp l, tg, h => by
    cases tg <;> first | exact Bool.noConfusion h | skip
    rename_i es k p
    have h' : chkTs N l s0 own es = true := h
    obtain ⟨i1, i2⟩ := chkTs_env (env := X.env) h'
    have z := pg_tup (k := k) (pos := p) g.calm (pgs_T g l h') i1 i2
    rw [g.eK] at z
    exact z
  | .nil, tg, h => by cases tg <;> exact Bool.noConfusion h
  | .cons a b, tg, h => by cases tg <;> exact Bool.noConfusion h
theorem pgs_T {X : Cx} (g : Gd E N sc s0 X) {own : List Nat} : ∀ (t : T) {es : List Expr}, chkTs N t s0 own es = true → PGs X es (gTs E.K t)
  | .nil, es, h => by
    cases es with
    | nil => exact pgs_nil
    | cons _ _ => exact Bool.noConfusion h
  | .cons a b, es, h => by
    cases es with
    | nil => exact Bool.noConfusion h
    | cons e es =>
      simp only [chkTs, Bool.and_eq_true, Bool.not_eq_true'] at h
      exact pgs_cons (pg_T g a h.1.2) (pgs_T g b h.2) (by rw [assign_ne h.1.1]; rfl)
  | .nm i, es, h => by cases es <;> exact Bool.noConfusion h
  | .tp l, es, h => by cases es <;> exact Bool.noConfusion h
end
end
theorem wipe_in {σ : L2.St} {i : Nat} : ∀ {vs : List Nat}, i ∈ vs → i < σ.length → (wipe σ vs)[i]? = some none
  | [], h, _ => by simp at h
  | v :: vs, h, hi => by
    unfold wipe
    by_cases e : v = i
    · subst e
      rw [List.getElem?_set_self (by rw [wipe_length]; exact hi)]
    · rw [List.getElem?_set_ne e]
      rcases List.mem_cons.mp h with q | q
      · exact absurd q.symm e
      · exact wipe_in q hi
theorem wipe_set {σ : L2.St} {i : Nat} {x : Option V} {vs : List Nat} (h : i ∈ vs) : wipe (σ.set i x) vs = wipe σ vs := by
  apply List.ext_getElem?
  intro j
  by_cases hj : j ∈ vs
  · by_cases hl : j < σ.length
    · rw [wipe_in hj hl, wipe_in hj (by rw [List.length_set]; exact hl)]
    · rw [List.getElem?_eq_none (by rw [wipe_length, List.length_set]; omega), List.getElem?_eq_none (by rw [wipe_length]; omega)]
  · rw [wipe_out hj, wipe_out hj]
    have e : i ≠ j := by rintro rfl; exact hj h
    rw [List.getElem?_set_ne e]
/-- what a target leaves -/
structure Tgt (own : List Nat) (p : Bool) (K : PySem.W.Frag) (st : DS) (σ : L2.St) (H Hs : Hp) (st' : DS) (σ' : L2.St) : Prop where
  si : SI K st' σ' H Hs
  go : Go p st σ H Hs st' σ' H Hs
  wp : wipe σ' own = wipe σ own
  out : ∀ i, i ∉ own → σ'[i]? = σ[i]?
section
variable {K : PySem.W.Frag} {N : List Str} {s0 : Scope} {own : List Nat} {p : Bool}
mutual
theorem bind_T : ∀ (t : T) {tg : Expr} {d : D} {st st' : DS} {σ : L2.St} {H Hs : Hp} {v : V} {Q : L2.St → Hp → Prop}, chkT N t s0 own tg = true → bindT t d st = some st' → SI K st σ H Hs → Dp [] Hs v d →
    (∀ σ', Tgt own p K st σ H Hs st' σ' → Q σ' H) → gT K t v σ H Q
  | .nm i, tg, d, st, st', σ, H, Hs, v, Q, h, hb, I, hv, k => by
    cases tg <;> first | exact Bool.noConfusion h | skip
    simp only [chkT, Bool.and_eq_true, decide_eq_true_eq, List.contains_iff_mem] at h
    have hb' : (if i < st.length then some (st.set i (.sh d)) else none) = some st' := hb
    split at hb'
    · rename_i hi
      cases hb'
      obtain ⟨I1, g1⟩ := si_set (p := p) I hi hv
      refine k _ ⟨I1, g1, wipe_set h.2, fun j hj => ?_⟩
      have e : i ≠ j := by rintro rfl; exact hj h.2
      rw [List.getElem?_set_ne e]
    · cases hb'
  | .tp l, tg, d, st, st', σ, H, Hs, v, Q, h, hb, I, hv, k => by
    cases tg <;> first | exact Bool.noConfusion h | skip
    cases d with
    | tuple ds =>
      cases hv with
      | tup hs hl =>
        refine ⟨_, _, rfl, .inl (rd_up I.sub (dp_rt hs)), ?_⟩
        obtain ⟨z1, z2⟩ := bind_Ts l h hb I hl k
        exact ⟨z1, z2⟩
    | _ => exact absurd hb (by simp [bindT])
  | .nil, tg, d, st, st', σ, H, Hs, v, Q, h, hb, I, hv, k => by cases tg <;> exact Bool.noConfusion h
  | .cons a b, tg, d, st, st', σ, H, Hs, v, Q, h, hb, I, hv, k => by cases tg <;> exact Bool.noConfusion h
theorem bind_Ts : ∀ (t : T) {es : List Expr} {ds : List D} {st st' : DS} {σ : L2.St} {H Hs : Hp} {vs : List V} {Q : L2.St → Hp → Prop}, chkTs N t s0 own es = true → bindT.bindTs t ds st = some st' → SI K st σ H Hs → DpAll [] Hs vs ds →
    (∀ σ', Tgt own p K st σ H Hs st' σ' → Q σ' H) → vs.length = tlen t ∧ gTs K t vs σ H Q
  | .nil, es, ds, st, st', σ, H, Hs, vs, Q, h, hb, I, hv, k => by
    cases ds with
    | nil =>
      cases hb
      cases hv
      exact ⟨rfl, rfl, k σ ⟨I, .refl, rfl, fun _ _ => rfl⟩⟩
    | cons _ _ => exact absurd hb (by simp [bindT.bindTs])
  | .cons a b, es, ds, st, st', σ, H, Hs, vs, Q, h, hb, I, hv, k => by
    cases es with
    | nil => exact Bool.noConfusion h
    | cons e es =>
      cases ds with
      | nil => exact absurd hb (by simp [bindT.bindTs])
      | cons d ds =>
        simp only [chkTs, Bool.and_eq_true, Bool.not_eq_true'] at h
        simp only [bindT.bindTs, Option.bind_eq_some_iff] at hb
        obtain ⟨st1, e1, e2⟩ := hb
        cases hv with
        | cons hv hvs =>
          rename_i v vs
          -- the length does not hang on the slots
          have len : vs.length = tlen b := by
            have : ∀ (b : T) {es : List Expr} {ds : List D} {st st' : DS}, chkTs N b s0 own es = true → bindT.bindTs b ds st = some st' → ds.length = tlen b := by
              intro b
              induction b with
              | nil => intro es ds st st' _ hb; cases ds with | nil => rfl | cons _ _ => exact absurd hb (by simp [bindT.bindTs])
              | cons a b _ ih =>
                intro es ds st st' h hb
                cases es with
                | nil => exact Bool.noConfusion h
                | cons e es =>
                  cases ds with
                  | nil => exact absurd hb (by simp [bindT.bindTs])
                  | cons d ds =>
                    simp only [chkTs, Bool.and_eq_true] at h
                    simp only [bindT.bindTs, Option.bind_eq_some_iff] at hb
                    obtain ⟨st1, e1, e2⟩ := hb
                    simp only [List.length_cons, tlen, ih h.2 e2]
              | _ => intro es ds st st' h hb; cases es <;> exact Bool.noConfusion h
            rw [dps_len hvs]
            exact this b h.2 e2
          refine ⟨by simp only [List.length_cons, tlen, len], v, vs, rfl, ?_⟩
          refine bind_T a h.1.2 e1 I hv fun σ1 t1 => ?_
          exact (bind_Ts b h.2 e2 t1.si (Q := Q) hvs fun σ2 t2 => k σ2 ⟨t2.si, (t1.go.trans t2.go).weak fun z => by rw [z]; rfl, t2.wp.trans t1.wp, fun i hi => (t2.out i hi).trans (t1.out i hi)⟩).2
  | .nm i, es, ds, st, st', σ, H, Hs, vs, Q, h, hb, I, hv, k => by cases es <;> exact Bool.noConfusion h
  | .tp l, es, ds, st, st', σ, H, Hs, vs, Q, h, hb, I, hv, k => by cases es <;> exact Bool.noConfusion h
end
/-! ### the block's own names -/
theorem wipeS_len (st : DS) : ∀ vs : List Nat, (wipeS st vs).length = st.length
  | [] => rfl
  | v :: vs => by unfold wipeS; rw [List.length_set, wipeS_len st vs]
theorem wipeS_get {st : DS} {i : Nat} {x : Sl} (hx : x ≠ .emp) : ∀ {vs : List Nat}, (wipeS st vs)[i]? = some x → st[i]? = some x ∧ i ∉ vs
  | [], h => ⟨h, by simp⟩
  | v :: vs, h => by
    unfold wipeS at h
    by_cases hi : v = i
    · subst hi
      by_cases hv : v < (wipeS st vs).length
      · rw [List.getElem?_set_self hv] at h
        cases h
        exact absurd rfl hx
      · rw [List.getElem?_eq_none (by simpa using hv)] at h; cases h
    · rw [List.getElem?_set_ne hi] at h
      obtain ⟨h1, h2⟩ := wipeS_get hx h
      exact ⟨h1, by simp only [List.mem_cons, not_or]; exact ⟨fun e => hi e.symm, h2⟩⟩
theorem owd_wipe {st : DS} {σ : L2.St} {own : List Nat} {a : Addr} (h : Owd (wipeS st own) (wipe σ own) a) : ∃ i ds, i ∉ own ∧ st[i]? = some (.ow ds) ∧ σ[i]? = some (some (.ref a)) := by
  obtain ⟨i, ds, h1, h2⟩ := h
  obtain ⟨q1, q2⟩ := wipeS_get (by simp) h1
  rw [wipe_out q2] at h2
  exact ⟨i, ds, q2, q1, h2⟩
theorem si_wipe {st : DS} {σ : L2.St} {H Hs : Hp} (I : SI K st σ H Hs) (own : List Nat) : SI K (wipeS st own) (wipe σ own) H Hs := by
  refine ⟨by rw [wipeS_len, wipe_length]; exact I.len, I.sub, fun i d z => ?_, fun i ds z => ?_, fun i j ds es a hn z1 z2 z3 z4 => ?_, fun i ns z => ?_⟩
  · obtain ⟨q1, q2⟩ := wipeS_get (by simp) z
    rw [wipe_out q2]
    exact I.sh i d q1
  · obtain ⟨q1, q2⟩ := wipeS_get (by simp) z
    rw [wipe_out q2]
    exact I.ow i ds q1
  · obtain ⟨q1, q2⟩ := wipeS_get (by simp) z1
    obtain ⟨q3, q4⟩ := wipeS_get (by simp) z2
    rw [wipe_out q2] at z3
    rw [wipe_out q4] at z4
    exact I.ne i j ds es a hn q1 q3 z3 z4
  · obtain ⟨q1, q2⟩ := wipeS_get (by simp) z
    rw [wipe_out q2]
    exact I.ro i ns q1
theorem backS_len {st3 st1 : DS} : ∀ vs : List Nat, (backS st3 st1 vs).length = st3.length
  | [] => rfl
  | v :: vs => by
    unfold backS
    split
    · rw [List.length_set, backS_len vs]
    · exact backS_len vs
theorem backS_out {st3 st1 : DS} {i : Nat} : ∀ {vs : List Nat}, i ∉ vs → (backS st3 st1 vs)[i]? = st3[i]?
  | [], _ => rfl
  | v :: vs, h => by
    simp only [List.mem_cons, not_or] at h
    unfold backS
    split
    · rw [List.getElem?_set_ne (Ne.symm h.1)]
      exact backS_out h.2
    · exact backS_out h.2
theorem backS_in {st3 st1 : DS} {i : Nat} (hl : st3.length = st1.length) : ∀ {vs : List Nat}, i ∈ vs → (backS st3 st1 vs)[i]? = st1[i]?
  | [], h => by simp at h
  | v :: vs, h => by
    unfold backS
    by_cases e : v = i
    · subst e
      split
      · rename_i x hx
        have hv : v < st1.length := (List.getElem?_eq_some_iff.mp hx).1
        rw [List.getElem?_set_self (by rw [backS_len]; omega), hx]
      · rename_i hx
        have hv : st1.length ≤ v := List.getElem?_eq_none_iff.mp hx
        rw [List.getElem?_eq_none (by rw [backS_len]; omega), hx]
    · have h' : i ∈ vs := by
        rcases List.mem_cons.mp h with q | q
        · exact absurd q.symm e
        · exact q
      split
      · rw [List.getElem?_set_ne e]
        exact backS_in hl h'
      · exact backS_in hl h'
/-- out of the block -/
theorem si_back {st1 st3 : DS} {σ : L2.St} {H1 Hs1 H2 Hs2 : Hp} (I1 : SI K st1 σ H1 Hs1) (I2 : SI K st3 (wipe σ own) H2 Hs2) (g : Go p (wipeS st1 own) (wipe σ own) H1 Hs1 st3 (wipe σ own) H2 Hs2) :
    SI K (backS st3 st1 own) σ H2 Hs2 ∧ Go p st1 σ H1 Hs1 (backS st3 st1 own) σ H2 Hs2 := by
  have hl : st3.length = st1.length := by rw [I2.len, wipe_length, I1.len]
  have get : ∀ {i : Nat} {x : Sl}, (backS st3 st1 own)[i]? = some x → (i ∈ own ∧ st1[i]? = some x) ∨ (i ∉ own ∧ st3[i]? = some x) := fun {i x} z => by
    by_cases hi : i ∈ own
    · rw [backS_in hl hi] at z; exact .inl ⟨hi, z⟩
    · rw [backS_out hi] at z; exact .inr ⟨hi, z⟩
  -- what a name of the block held ahead of it
  have kept : ∀ {i : Nat} {ds : List D} {a : Addr}, i ∈ own → st1[i]? = some (.ow ds) → σ[i]? = some (some (.ref a)) → ¬ Owd (wipeS st1 own) (wipe σ own) a := fun {i ds a} hi h1 h2 z => by
    obtain ⟨j, es, q1, q2, q3⟩ := owd_wipe z
    exact I1.ne i j ds es a (by rintro rfl; exact q1 hi) h1 q2 h2 q3
  have sub1 : ∀ a, Owd (wipeS st1 own) (wipe σ own) a → Owd st1 σ a := fun a z => by
    obtain ⟨j, es, q1, q2, q3⟩ := owd_wipe z
    exact ⟨j, es, q2, q3⟩
  refine ⟨⟨by rw [backS_len]; exact hl.trans I1.len, I2.sub, fun i d z => ?_, fun i ds z => ?_, fun i j ds es a hn z1 z2 z3 z4 => ?_, fun i ns z => ?_⟩, ⟨fun a o n z => g.fr a o (fun w => n (sub1 a w)) z, g.al, g.old, fun a o z => ?_, fun a z => ?_, g.pu⟩⟩
  · rcases get z with ⟨hi, z⟩ | ⟨hi, z⟩
    · obtain ⟨v, h1, h2⟩ := I1.sh i d z
      exact ⟨v, h1, g.dp h2⟩
    · obtain ⟨v, h1, h2⟩ := I2.sh i d z
      rw [wipe_out hi] at h1
      exact ⟨v, h1, h2⟩
  · rcases get z with ⟨hi, z⟩ | ⟨hi, z⟩
    · obtain ⟨a, xs, h1, h2, h3, h4⟩ := I1.ow i ds z
      have no := kept hi z h1
      refine ⟨a, xs, h1, g.fr a _ no h2, g.dps h3, ?_⟩
      cases r : Hs2 a with
      | none => rfl
      | some o =>
        rcases g.new a o r with ⟨u, t⟩ | t | t
        · rw [h4] at t; cases t
        · rw [h2] at t; cases t
        · exact absurd t no
    · obtain ⟨a, xs, h1, h2⟩ := I2.ow i ds z
      rw [wipe_out hi] at h1
      exact ⟨a, xs, h1, h2⟩
  · rcases get z1 with ⟨hi, z1⟩ | ⟨hi, z1⟩
    · rcases get z2 with ⟨hj, z2⟩ | ⟨hj, z2⟩
      · exact I1.ne i j ds es a hn z1 z2 z3 z4
      · have w : Owd st3 (wipe σ own) a := ⟨j, es, z2, by rw [wipe_out hj]; exact z4⟩
        rcases g.ows a w with t | t
        · exact kept hi z1 z3 t
        · obtain ⟨b, xs, q1, q2, _⟩ := I1.ow i ds z1
          rw [z3] at q1; cases q1
          rw [q2] at t; cases t
    · rcases get z2 with ⟨hj, z2⟩ | ⟨hj, z2⟩
      · have w : Owd st3 (wipe σ own) a := ⟨i, ds, z1, by rw [wipe_out hi]; exact z3⟩
        rcases g.ows a w with t | t
        · exact kept hj z2 z4 t
        · obtain ⟨b, xs, q1, q2, _⟩ := I1.ow j es z2
          rw [z4] at q1; cases q1
          rw [q2] at t; cases t
      · exact I2.ne i j ds es a hn z1 z2 (by rw [wipe_out hi]; exact z3) (by rw [wipe_out hj]; exact z4)
  · rcases get z with ⟨hi, z⟩ | ⟨hi, z⟩
    · obtain ⟨a, h1, h2⟩ := I1.ro i ns z
      refine ⟨a, h1, h2.mono fun o u t => g.fr a _ (fun w => ?_) t⟩
      obtain ⟨j, es, q1, q2⟩ := sub1 a w
      obtain ⟨b, xs, q3, q4, _⟩ := I1.ow j es q1
      rw [q2] at q3; cases q3
      rw [t] at q4; cases q4
    · obtain ⟨a, h1, h2⟩ := I2.ro i ns z
      rw [wipe_out hi] at h1
      exact ⟨a, h1, h2⟩
  · rcases g.new a o z with t | t | t
    · exact .inl t
    · exact .inr (.inl t)
    · exact .inr (.inr (sub1 a t))
  · obtain ⟨i, ds, z1, z2⟩ := z
    rcases get z1 with ⟨hi, z1⟩ | ⟨hi, z1⟩
    · exact .inl ⟨i, ds, z1, z2⟩
    · rcases g.ows a ⟨i, ds, z1, by rw [wipe_out hi]; exact z2⟩ with t | t
      · exact .inl (sub1 a t)
      · exact .inr t
/-- a list of which no slot knows is changed -/
theorem si_other {st st1 : DS} {σ σ1 : L2.St} {H Hs H1 Hs1 : Hp} {a : Addr} {o : HO} {xs : List V} (I : SI K st1 σ1 H1 Hs1) (g : Go p st σ H Hs st1 σ1 H1 Hs1) (h : H a = none) (h1 : H1 a = some (.lst xs)) (hs : Hs1 a = none) (no : ¬ Owd st1 σ1 a) :
    SI K st1 σ1 (upd H1 a o) Hs1 ∧ Go p st σ H Hs st1 σ1 (upd H1 a o) Hs1 := by
  refine ⟨⟨I.len, fun b u z => ?_, I.sh, fun i ds z => ?_, I.ne, fun i ns z => ?_⟩, ⟨fun b u n z => ?_, fun b z => ?_, g.old, g.new, g.ows, fun e b u z => ?_⟩⟩
  · rw [upd_ne (ne_of_none z hs)]; exact I.sub b u z
  · obtain ⟨b, ys, z1, z2, z3⟩ := I.ow i ds z
    refine ⟨b, ys, z1, ?_, z3⟩
    rw [upd_ne]
    · exact z2
    · rintro rfl
      exact no ⟨i, ds, z, z1⟩
  · obtain ⟨b, z1, z2⟩ := I.ro i ns z
    refine ⟨b, z1, z2.mono fun o u t => ?_⟩
    rw [upd_ne]
    · exact t
    · rintro rfl
      rw [h1] at t; cases t
  · rw [upd_ne (ne_of_none z h)]; exact g.fr b u n z
  · by_cases e : b = a
    · subst e; exact h
    · rw [upd_ne e] at z; exact g.al b z
  · rw [upd_ne (ne_of_none z h)]; exact g.pu e b u z
/-- what an iterator gives, laid -/
theorem si_yield {st : DS} {σ : L2.St} {H Hs H' : Hp} {d : D} {x : V} (I : SI K st σ H Hs) (y : Yok Hs H d x H') : ∃ Hs', SI K st σ H' Hs' ∧ Go p st σ H Hs st σ H' Hs' ∧ Dp [] Hs' x d := by
  rcases y with ⟨rfl, h⟩ | ⟨t, x1, x2, d1, d2, rfl, h1, rfl, rfl, h2, h3⟩
  · exact ⟨Hs, I, .refl, h⟩
  · obtain ⟨I1, g1⟩ := si_lay (p := p) (o := .tup [x1, x2]) I h1
    exact ⟨_, I1, g1, .tup (.inl (.inl upd_same)) (.cons (g1.dp h2) (.cons (g1.dp h3) .nil))⟩
end
end Sm

set_option Elab.async false
set_option linter.all false
set_option maxRecDepth 100000
set_option maxHeartbeats 4000000
namespace Sm
open PySem PySem.Spec PyProof.Rows L2
theorem folded_no {iter : Expr} {env : Env} (h : isSet iter = false) : ∀ x, foldedSetIterable iter env x = pure x := by
  intro x
  cases iter <;> first | rfl | exact Bool.noConfusion h
section
variable {E : En} {N : List Str} {sc s0 : Scope}
theorem gd_blk {X : Cx} (g : Gd E N sc s0 X) {scope : Scope} (s : Shared) (H : Hp) (Ca : Addr) (cl : List (Str × Addr)) (fp : List Addr) : Gd E N (relS scope sc) scope (X.blk s H scope (compEnvC scope cl Ca X.env) fp) where
  eP := g.eP
  ew := g.ew
  eK := g.eK
  emg := g.emg
  ebase := g.ebase
  eN := g.eN
  nd := g.nd
  esc := by
    show relS scope X.env.scope = _
    rw [g.esc]
  calm := g.calm
  room := g.room
  exe := rfl
  stor := fun x h => by
    show Loc (relS scope X.env.scope) x ∧ ((scope.names.lookup x == some .cell) = true ∨ (relS scope X.env.scope).names.lookup x = some .local)
    unfold locB at h
    split at h
    · rename_i q
      have := lookup_relS_keep (sc := X.env.scope) (by decide) q
      exact ⟨.inl this, .inr this⟩
    · rename_i q
      have := lookup_relS_keep (sc := X.env.scope) (by decide) q
      exact ⟨.inr this, .inl (by rw [q]; rfl)⟩
    · cases h
def ttC (E : En) (N : List Str) (sc s0 : Scope) : List Expr → TT
  | [] => tYes
  | [c] => wT E N sc s0 c
  | _ => fun _ _ _ => False
theorem pts_C {X : Cx} (g : Gd E N sc s0 X) {cond : C} : ∀ {ifs : List Expr}, (match ifs with | [] => isNop cond | [c] => !isNop cond && chkC N cond sc c | _ => false) = true → PTs X ifs (ttC E N sc s0 ifs)
  | [], _ => pts_nil
  | [c], _ => pts_one g.pt
  | _ :: _ :: _, h => by cases h
theorem lcL_step {f : D → DS → Option (Option D × DS)} {d : D} {ds acc : List D} {st : DS} {r : List D × DS} (h : lcL f (d :: ds) acc st = some r) :
    (∃ v st1, f d st = some (some v, st1) ∧ acc.length < line ∧ lcL f ds (acc ++ [v]) st1 = some r) ∨ ∃ st1, f d st = some (none, st1) ∧ lcL f ds acc st1 = some r := by
  unfold lcL at h
  split at h
  · rename_i v st1 e
    split at h
    · exact .inl ⟨v, st1, e, by assumption, h⟩
    · cases h
  · rename_i st1 e
    exact .inr ⟨st1, e, h⟩
  · cases h
theorem inv_lc {elt it cond : C} {own : List Nat} {t : T} {e : Expr} (h : chkC N (.lc elt own t it cond) sc e = true) : ∃ ee tg iter ifs scope p, e = .ListComp ee [⟨tg, iter, ifs, 0⟩] scope p ∧ isSet iter = false ∧ chkI N it sc iter = true ∧ tgOk it tg = true ∧ chkT N t scope own tg = true ∧
    BlkOk N sc scope (own.map fun i => (N.getD i "", i)) ∧ chkC N elt (relS scope sc) ee = true ∧ (match ifs with | [] => isNop cond | [c] => !isNop cond && chkC N cond (relS scope sc) c | _ => false) = true := by
  cases e <;> first | exact Bool.noConfusion h | skip
  rename_i ee gs scope p
  match gs, h with
  | [⟨tg, iter, ifs, k⟩], h =>
    simp only [chkC, Bool.and_eq_true, decide_eq_true_eq, Bool.not_eq_true'] at h
    obtain ⟨⟨⟨⟨⟨⟨⟨⟨h1, h2⟩, h3⟩, h4⟩, h5⟩, h6⟩, h7⟩, h8⟩, h9⟩ := h
    subst h1
    refine ⟨ee, tg, iter, ifs, scope, p, rfl, h2, h3, ?_, h5, blkOk_by h7, h8, h9⟩
    cases it <;> first | rfl | exact h4
/-- the block's reading, by the evaluation -/
theorem lc_val (elt : C) (own : List Nat) (t : T) (it cond : C) (he : Snd E N elt) (hi : Snd E N it) (hc : Snd E N cond) {sc s0 : Scope} {ee tg iter : Expr} {ifs : List Expr} {scope : Scope} (h2 : chkI N it sc iter = true) (h3 : tgOk it tg = true) (h4 : chkT N t scope own tg = true)
    (h6 : chkC N elt (relS scope sc) ee = true) (h7 : (match ifs with | [] => isNop cond | [c] => !isNop cond && chkC N cond (relS scope sc) c | _ => false) = true) {st st' : DS} {res : List D} (hd : evC (.lc elt own t it cond) st = some (.list res, st')) {σ : L2.St} {H Hs : Hp} (I : SI E.K st σ H Hs) {Q : VK}
    (k : AftF E.K (pureC (.lc elt own t it cond)) st σ H Hs st' res Q) : tLc (wI E N sc s0 tg iter) (gT E.K t) (ttC E N (relS scope sc) scope ifs) (wE E N (relS scope sc) scope ee) own σ H Q := by
  simp only [evC, Option.bind_eq_some_iff, Option.map_eq_some_iff] at hd
  obtain ⟨⟨ds, st1⟩, e1, ⟨acc, stf⟩, e2, e3⟩ := hd
  cases e3
  refine hi.I sc s0 iter tg h2 h3 st st1 ds e1 σ H Hs I _ fun J H1 Hs1 I1 g1 iok => ?_
  intro Dl hDl
  obtain ⟨G, Y, w, hG, hY⟩ := iok
  have I1w := si_wipe I1 own
  have hsDl : Hs1 Dl = none := by
    cases z : Hs1 Dl with
    | none => rfl
    | some u => rw [I1.sub Dl u z] at hDl; cases hDl
  simp only at e2
  generalize hf : (fun (d : D) (st2 : DS) => (bindT t d st2).bind fun st3 => (evC cond st3).bind fun q => match q.1 with
      | .bool true => (evC elt q.2).map fun u => (some u.1, wipeS u.2 own)
      | .bool false => some (none, wipeS q.2 own)
      | _ => none : D → DS → Option (Option D × DS)) = f at e2
  refine lc_it w (fun i H2 => ∃ sti ac zs Hs2, SI E.K sti (wipe σ own) H2 Hs2 ∧ Go (pureC elt && pureC cond) (wipeS st1 own) (wipe σ own) H1 Hs1 sti (wipe σ own) H2 Hs2 ∧ H2 Dl = some (.lst zs) ∧ DpAll [] Hs2 zs ac ∧ Hs2 Dl = none ∧ ¬ Owd sti (wipe σ own) Dl ∧
    lcL f (ds.drop i) ac sti = some (acc, stf)) ?_ ?_ ?_ ?_
  · obtain ⟨I2, g2⟩ := si_new (p := pureC elt && pureC cond) (o := .lst []) I1w hDl
    exact ⟨_, [], [], Hs1, I2, g2, upd_same, .nil, hsDl, I1w.noOw hDl, e2⟩
  · rintro i H2 hi' ⟨sti, ac, zs, Hs2, I2, g2, _⟩
    exact hG H2 Hs2 g2.old I2.sub
  · rintro i x H2 H3 hlt ⟨sti, ac, zs, Hs2, I2, g2, z1, z2, z3, z4, z5⟩ hy
    obtain ⟨d, hd', yo⟩ := hY i x H2 H3 Hs2 hlt g2.old I2.sub hy
    obtain ⟨Hs3, I3, g3, d3⟩ := si_yield (p := true) I2 yo
    have hdr : ds.drop i = d :: ds.drop (i + 1) := by
      rw [List.drop_eq_getElem_cons hlt]
      congr 1
      rw [List.getElem?_eq_getElem hlt] at hd'
      exact Option.some.inj hd'
    rw [hdr] at z5
    have z1' : H3 Dl = some (.lst zs) := g3.pu rfl _ _ z1
    -- the new list is nobody's but ours
    have away : ∀ {q : Bool} {st4 : DS} {σ4 : L2.St} {H4 Hs4 : Hp}, Go q sti (wipe σ own) H2 Hs2 st4 σ4 H4 Hs4 → H4 Dl = some (.lst zs) ∧ Hs4 Dl = none ∧ ¬ Owd st4 σ4 Dl := fun {q st4 σ4 H4 Hs4} g => by
      refine ⟨g.fr Dl _ z4 z1, ?_, fun o => ?_⟩
      · cases r : Hs4 Dl with
        | none => rfl
        | some o =>
          rcases g.new Dl o r with ⟨u, t⟩ | t | t
          · rw [z3] at t; cases t
          · rw [z1] at t; cases t
          · exact absurd t z4
      · rcases g.ows Dl o with t | t
        · exact z4 t
        · rw [z1] at t; cases t
    -- the target
    have hfd : ∃ stt, bindT t d sti = some stt ∧ ∃ q, evC cond stt = some q ∧ (∃ b, q.1 = .bool b ∧ ((b = true ∧ ∃ u, evC elt q.2 = some u ∧ ac.length < line ∧ lcL f (ds.drop (i + 1)) (ac ++ [u.1]) (wipeS u.2 own) = some (acc, stf)) ∨
        (b = false ∧ lcL f (ds.drop (i + 1)) ac (wipeS q.2 own) = some (acc, stf)))) := by
      rcases lcL_step z5 with ⟨v, st5, f1, f2, f3⟩ | ⟨st5, f1, f3⟩
      · rw [← hf] at f1
        simp only [Option.bind_eq_some_iff] at f1
        obtain ⟨stt, b1, q, b2, b3⟩ := f1
        refine ⟨stt, b1, q, b2, ?_⟩
        split at b3
        · rename_i hq
          simp only [Option.map_eq_some_iff] at b3
          obtain ⟨u, b4, b5⟩ := b3
          cases b5
          exact ⟨true, hq, .inl ⟨rfl, u, b4, f2, f3⟩⟩
        · cases b3
        · cases b3
      · rw [← hf] at f1
        simp only [Option.bind_eq_some_iff] at f1
        obtain ⟨stt, b1, q, b2, b3⟩ := f1
        refine ⟨stt, b1, q, b2, ?_⟩
        split at b3
        · simp only [Option.map_eq_some_iff] at b3
          obtain ⟨u, b4, b5⟩ := b3
          cases b5
        · rename_i hq
          cases b3
          exact ⟨false, hq, .inr ⟨rfl, f3⟩⟩
        · cases b3
    obtain ⟨stt, b1, ⟨qd, qs⟩, b2, b, b3, b4⟩ := hfd
    simp only at b3 b4
    subst b3
    refine bind_T (p := true) t h4 b1 I3 d3 fun σ2 tt => ⟨tt.wp.trans ?_, ?_⟩
    · -- the block's own slots stay forgotten
      have : wipe (wipe σ own) own = wipe σ own := by
        apply List.ext_getElem?
        intro j
        by_cases hj : j ∈ own
        · by_cases hl : j < σ.length
          · rw [wipe_in hj hl, wipe_in hj (by rw [wipe_length]; exact hl)]
          · rw [List.getElem?_eq_none (by rw [wipe_length, wipe_length]; omega), List.getElem?_eq_none (by rw [wipe_length]; omega)]
        · rw [wipe_out hj]
      exact this
    · have wpe : wipe σ2 own = wipe σ own := tt.wp.trans (by
        apply List.ext_getElem?
        intro j
        by_cases hj : j ∈ own
        · by_cases hl : j < σ.length
          · rw [wipe_in hj hl, wipe_in hj (by rw [wipe_length]; exact hl)]
          · rw [List.getElem?_eq_none (by rw [wipe_length, wipe_length]; omega), List.getElem?_eq_none (by rw [wipe_length]; omega)]
        · rw [wipe_out hj])
      -- the test
      have test : ∀ Q' : Bool → Hp → Prop, AftT E.K (pureC cond) stt σ2 H3 Hs3 qs b Q' → ttC E N (relS scope sc) scope ifs σ2 H3 Q' := fun Q' kq => by
        match ifs, h7 with
        | [], h7 =>
          have hn : cond = .nop := by cases cond <;> first | rfl | exact Bool.noConfusion h7
          subst hn
          cases b2
          exact kq H3 Hs3 tt.si .refl
        | [cx], h7 =>
          simp only [Bool.and_eq_true] at h7
          exact hc.T (relS scope sc) scope cx h7.2 stt qs b b2 σ2 H3 Hs3 tt.si Q' kq
      refine test _ fun H4 Hs4 I4 g4 => ?_
      have gA := (g3.trans tt.go).trans g4
      rcases b4 with ⟨rfl, u, c1, c2, c3⟩ | ⟨rfl, c3⟩
      · rw [if_pos rfl]
        refine he.C (relS scope sc) scope ee h6 qs u.2 u.1 c1 σ2 H4 Hs4 I4 _ fun y H5 Hs5 I5 g5 d5 => ?_
        have gB := gA.trans g5
        obtain ⟨w1, w2, w3⟩ := away gB
        refine ⟨zs, w1, by rw [← line_eq, dps_len z2]; exact c2, ?_⟩
        have I6 := si_wipe I5 own
        rw [wpe] at I6
        have owb : ∀ a, Owd (wipeS u.2 own) (wipe σ own) a → Owd u.2 σ2 a := fun a o => by
          rw [← wpe] at o
          obtain ⟨j, es, _, q2, q3⟩ := owd_wipe o
          exact ⟨j, es, q2, q3⟩
        have gC : Go (pureC elt && pureC cond) (wipeS st1 own) (wipe σ own) H1 Hs1 (wipeS u.2 own) (wipe σ own) H5 Hs5 := by
          have g6 := (g2.trans gB).weak (q := pureC elt && pureC cond) fun z => by
            simp only [Bool.and_eq_true, Bool.true_and] at z ⊢
            exact ⟨z, z.2, z.1⟩
          exact ⟨g6.fr, g6.al, g6.old, g6.new, fun a o => g6.ows a (owb a o), g6.pu⟩
        obtain ⟨I7, g7⟩ := si_other (o := .lst (zs ++ [y])) I6 gC hDl w1 w2 (fun o => w3 (owb _ o))
        exact ⟨_, ac ++ [u.1], zs ++ [y], Hs5, I7, g7, upd_same, dps_app (gB.dps z2) (.cons d5 .nil), w2, fun o => w3 (owb _ o), c3⟩
      · rw [if_neg Bool.false_ne_true]
        obtain ⟨w1, w2, w3⟩ := away gA
        have I6 := si_wipe I4 own
        rw [wpe] at I6
        have owb : ∀ a, Owd (wipeS qs own) (wipe σ own) a → Owd qs σ2 a := fun a o => by
          rw [← wpe] at o
          obtain ⟨j, es, _, q2, q3⟩ := owd_wipe o
          exact ⟨j, es, q2, q3⟩
        have gC : Go (pureC elt && pureC cond) (wipeS st1 own) (wipe σ own) H1 Hs1 (wipeS qs own) (wipe σ own) H4 Hs4 := by
          have g6 := (g2.trans gA).weak (q := pureC elt && pureC cond) fun z => by
            simp only [Bool.and_eq_true, Bool.true_and] at z ⊢
            exact ⟨z, z.2⟩
          exact ⟨g6.fr, g6.al, g6.old, g6.new, fun a o => g6.ows a (owb a o), g6.pu⟩
        exact ⟨_, ac, zs, Hs4, I6, gC, w1, gA.dps z2, w2, fun o => w3 (owb _ o), c3⟩
  · rintro H2 ⟨sti, ac, zs, Hs2, I2, g2, z1, z2, z3, z4, z5⟩
    rw [List.drop_length] at z5
    cases z5
    obtain ⟨I3, g3⟩ := si_back I1 I2 g2
    have no : ¬ Owd (backS stf st1 own) σ Dl := fun o => by
      rcases g3.ows Dl o with t | t
      · exact I1.noOw hDl t
      · obtain ⟨j, es, q1, q2⟩ := o
        obtain ⟨b', ys, q3, q4, _⟩ := I3.ow j es q1
        rw [q2] at q3
        cases q3
        by_cases hj : j ∈ own
        · have hl : stf.length = st1.length := by rw [I2.len, wipe_length, I1.len]
          rw [backS_in hl hj] at q1
          obtain ⟨b2, ys2, w1, w2, _⟩ := I1.ow j es q1
          rw [q2] at w1
          cases w1
          rw [hDl] at w2; cases w2
        · rw [backS_out hj] at q1
          exact z4 ⟨j, es, q1, by rw [wipe_out hj]; exact q2⟩
    exact k Dl zs H2 Hs2 I3 ((g1.trans g3).weak fun z => by simp only [pureC, Bool.and_eq_true] at z ⊢; exact ⟨z.1.2, z.1.1, z.2⟩) (g1.al _ hDl) z1 z3 no z2
theorem snd_lc (elt : C) (own : List Nat) (t : T) (it cond : C) (he : Snd E N elt) (hi : Snd E N it) (hc : Snd E N cond) : Snd E N (.lc elt own t it cond) := by
  -- what the block is, by the rule
  have rule : ∀ {sc s0 : Scope} {ee tg iter : Expr} {ifs : List Expr} {scope : Scope} {p : Pos}, isSet iter = false → chkT N t scope own tg = true → BlkOk N sc scope (own.map fun i => (N.getD i "", i)) →
      (match ifs with | [] => isNop cond | [c] => !isNop cond && chkC N cond (relS scope sc) c | _ => false) = true → ∀ {σ : L2.St} {H : Hp} {Q : VK},
      tLc (wI E N sc s0 tg iter) (gT E.K t) (ttC E N (relS scope sc) scope ifs) (wE E N (relS scope sc) scope ee) own σ H Q → wE E N sc s0 (.ListComp ee [⟨tg, iter, ifs, 0⟩] scope p) σ H Q := by
    intro sc s0 ee tg iter ifs scope p h1 h2 h3 h4 σ H Q q
    refine up (fun X g => ?_) q
    have z := pe_lc (elt := ee) (ifs := ifs) (pos := p) (own := own.map fun i => (N.getD i "", i)) (wi := wI E N sc s0 tg iter) (g := gT E.K t) (tt := ttC E N (relS scope sc) scope ifs) (te := wE E N (relS scope sc) scope ee)
      g.calm (by rw [g.eN]; exact g.nd) (g.pi (tg := tg) (e := iter)) (by rw [g.eN, g.esc]; exact h3) (fun s H Ca cl fp => pg_T (gd_blk g s H Ca cl fp) t h2) (fun s H Ca cl fp => pts_C (gd_blk g s H Ca cl fp) h4) (fun s H Ca cl fp => (gd_blk g s H Ca cl fp).pe) (folded_no h1)
    have ev : (own.map fun i => (N.getD i "", i)).map (·.2) = own := by
      rw [List.map_map]
      exact List.map_id' own
    rw [ev] at z
    exact z
  refine mkSndF (fun _ => rfl) (fun _ => rfl) (fun _ _ _ _ => rfl) (fun sc e h => ?_) (fun st st' d hd => ?_) (fun sc s0 e h st st' res hd σ H Hs I Q k => ?_)
  · cases e <;> first | rfl | exact Bool.noConfusion h
  · simp only [evC, Option.bind_eq_some_iff, Option.map_eq_some_iff] at hd
    obtain ⟨r, e1, q, e2, e3⟩ := hd
    cases e3
    exact ⟨_, rfl⟩
  · obtain ⟨ee, tg, iter, ifs, scope, p, rfl, h1, h2, h3, h4, h5, h6, h7⟩ := inv_lc h
    refine rule h1 h4 h5 h7 ?_
    exact lc_val elt own t it cond he hi hc h2 h3 h4 h6 h7 hd I k
/-! ### every term -/
theorem snd_all : ∀ c : C, okC E c → Snd E N c
  | .var i, _ => snd_var i
  | .lit d, _ => snd_lit d
  | .glob x d, h => snd_glob x d h
  | .bin o a b, h => snd_bin o a b (snd_all a h.1) (snd_all b h.2)
  | .neg a, h => snd_neg a (snd_all a h)
  | .cmp o a b, h => snd_cmp o a b (snd_all a h.1) (snd_all b h.2)
  | .ch2 o p a b c, h => snd_ch2 o p a b c (snd_all a h.1) (snd_all b h.2.1) (snd_all c h.2.2)
  | .ch3 o p q a b c d, h => snd_ch3 o p q a b c d (snd_all a h.1) (snd_all b h.2.1) (snd_all c h.2.2.1) (snd_all d h.2.2.2)
  | .isN a, h => snd_isN a (snd_all a h)
  | .notN a, h => snd_notN a (snd_all a h)
  | .and a b, h => snd_and a b (snd_all a h.1) (snd_all b h.2)
  | .or a b, h => snd_or a b (snd_all a h.1) (snd_all b h.2)
  | .not a, h => snd_not a (snd_all a h)
  | .ife t a b, h => snd_ife t a b (snd_all t h.1) (snd_all a h.2.1) (snd_all b h.2.2)
  | .tup l, h => snd_tup l (snd_all l h)
  | .lst l, h => snd_lst l (snd_all l h)
  | .sub a i, h => snd_sub a i (snd_all a h.1) (snd_all i h.2)
  | .subO j i, h => snd_subO j i (snd_all i h)
  | .slice a lo hi, h => snd_slice a lo hi (snd_all a h.1) (snd_all lo h.2.1) (snd_all hi h.2.2)
  | .slcO j lo hi, h => snd_slcO j lo hi (snd_all lo h.1) (snd_all hi h.2)
  | .rev a, h => snd_rev a (snd_all a h)
  | .blt f l, h => snd_blt f l (snd_all l h)
  | .isi f a, h => snd_isi f a (snd_all a h)
  | .srev a, h => snd_srev a (snd_all a h)
  | .call x f l, h => snd_call x f l h.1 (snd_all l h.2)
  | .cio x f j l, h => snd_cio x f j l h.1 (snd_all l h.2)
  | .lenR j, _ => snd_lenR j
  | .subR j i, h => snd_subR j i (snd_all i h)
  | .cro x f j l, h => snd_cro x f j l h.1 (snd_all l h.2)
  | .callN x f l, h => snd_callN x f l h.1 (snd_all l h.2)
  | .croN x f j l, h => snd_croN x f j l h.1 (snd_all l h.2)
  | .lc e own t it c, h => snd_lc e own t it c (snd_all e h.1) (snd_all it h.2.1) (snd_all c h.2.2)
  | .rng l, h => snd_rng l (snd_all l h)
  | .enum a, h => snd_enum a (snd_all a h)
  | .zip a b, h => snd_zip a b (snd_all a h.1) (snd_all b h.2)
  | .seq a, h => snd_seq a (snd_all a h)
  | .fx a, h => snd_fx a (snd_all a h)
  | .nop, _ => snd_nop
  | .anil, _ => snd_anil
  | .acons a l, h => snd_acons a l (snd_all a h.1) (snd_all l h.2)
end
end Sm

set_option Elab.async false
set_option linter.all false
set_option maxRecDepth 100000
set_option maxHeartbeats 4000000
namespace Sm
open PySem PySem.Spec PyProof.Rows L2
/-! ### statements: the text against the terms -/
def namesOf (sc : Scope) (line : Nat) (ts : List Expr) : List Str := ts.filterMap fun
    | .Name id pos => if (sc.names.lookup id == some .local) && pos.line == line then some id else none
    | _ => none
def noSwap (sc : Scope) (ts vs : List Expr) : Bool :=
  !(ts.length == 2 || ts.length == 3) || vs.length != ts.length || vs.any isStar || ((namesOf sc ((ts.head?.map (·.pos.line)).getD 0) ts).length != ts.length || (namesOf sc ((ts.head?.map (·.pos.line)).getD 0) ts).eraseDups.length != (namesOf sc ((ts.head?.map (·.pos.line)).getD 0) ts).length) || vs.all (foldedForSure 8)
def lineOf (ts : List Expr) : Nat := (ts.head?.map (·.pos.line)).getD 0
theorem swap_none {env : Env} {sc : Scope} {ts vs : List Expr} {k k2 : Nat} {p p2 : Pos} (hk : env.scope = sc) (h : noSwap sc ts vs = true) : swappedStores [.Tuple ts k p] (.Tuple vs k2 p2) env = pure none := by
  subst hk
  unfold swappedStores
  unfold noSwap at h
  simp only [Bool.or_eq_true] at h
  dsimp only [pure_bind]
  split
  · rfl
  · rename_i h1
    split
    · rfl
    · rename_i h2
      split
      · rfl
      · rename_i h3
        split
        · rfl
        · rename_i h4
          exfalso
          rcases h with (((h | h) | h) | (h | h)) | h
          · exact h1 (by rw [h]; rfl)
          · exact h1 (by rw [h]; simp)
          · exact h2 h
          · exact h3 (by
              show ((namesOf env.scope ((Option.map (fun x => x.pos.line) ts.head?).getD 0) ts).length != ts.length || _) = true
              rw [h]; rfl)
          · exact h3 (by
              show (_ || ((namesOf env.scope ((Option.map (fun x => x.pos.line) ts.head?).getD 0) ts).eraseDups.length != (namesOf env.scope ((Option.map (fun x => x.pos.line) ts.head?).getD 0) ts).length)) = true
              rw [h]; simp)
          · exact h4 h
def swapB (sc : Scope) (ts vs : List Expr) : Bool :=
  (ts.length == 2 || ts.length == 3) && vs.length == ts.length && (sc.kind == .function) && !(vs.any isStar) && (namesOf sc (lineOf ts) ts).length == ts.length && (namesOf sc (lineOf ts) ts).eraseDups.length == (namesOf sc (lineOf ts) ts).length &&
    !(vs.all (foldedForSure 8)) && !(vs.all (constantsAlone 8))
theorem swap_some {env : Env} {sc : Scope} {ts vs : List Expr} {k k2 : Nat} {p p2 : Pos} (hk : env.scope = sc) (h : swapB sc ts vs = true) : swappedStores [.Tuple ts k p] (.Tuple vs k2 p2) env = pure (some (namesOf sc (lineOf ts) ts)) := by
  subst hk
  unfold swappedStores
  unfold swapB at h
  simp only [Bool.and_eq_true, Bool.not_eq_true', beq_iff_eq] at h
  obtain ⟨⟨⟨⟨⟨⟨⟨h1, h2⟩, h3⟩, h4⟩, h5⟩, h6⟩, h7⟩, h8⟩ := h
  have hb : env.blockKind = .function := by unfold Env.blockKind; rw [h3]; rfl
  dsimp only [pure_bind]
  rw [if_neg (by rw [hb, h2, h1]; simp)]
  rw [if_neg (by show ¬ (vs.any isStar) = true; rw [h4]; decide)]
  rw [if_neg (by
    show ¬ ((namesOf env.scope (lineOf ts) ts).length != ts.length || ((namesOf env.scope (lineOf ts) ts).eraseDups.length != (namesOf env.scope (lineOf ts) ts).length)) = true
    rw [h5, h6, ← h5]; simp)]
  rw [if_neg (by rw [h7]; decide)]
  rw [if_neg (by rw [h8]; decide)]
  rfl

def isLc : C → Bool | .lc _ _ _ _ _ => true | _ => false
def opA : BO → Operator → Bool | .add, .Add => true | .sub, .Sub => true | _, _ => false
mutual
def chkS (N : List Str) : S → Scope → Stmt → Bool
  | .nop, _, .Pass _ => true
  | .nop, _, .Expr (.Constant (.str _) _ _) _ => true
  | .asg t c, sc, .Assign [tg] e _ => chkT N t sc (tSlots t) tg && chkC N c sc e && (match tg, e with
    | .Name _ _, _ => (sc.kind == .function) && (!isComp e || isLc c)
    | .Tuple ts _ _, .Tuple vs _ _ => noSwap sc ts vs
    | .Tuple _ _ _, _ => true
    | _, _ => false)
  | .par2 i j a b, sc, .Assign [.Tuple [tx, ty] _ _] (.Tuple [ea, eb] _ _) _ => (match tx, ty with
    | .Name x px, .Name y py => decide (N[i]? = some x) && decide (N[j]? = some y) && decide (i ≠ j) && (sc.names.lookup x == some .local) && (sc.names.lookup y == some .local) && swapB sc [.Name x px, .Name y py] [ea, eb] && decide (namesOf sc (lineOf [.Name x px, .Name y py]) [.Name x px, .Name y py] = [x, y]) && !isStar ea && !isStar eb && chkC N a sc ea && chkC N b sc eb
    | _, _ => false)
  | .par3 i j l a b c, sc, .Assign [.Tuple [tx, ty, tz] _ _] (.Tuple [ea, eb, ec] _ _) _ => (match tx, ty, tz with
    | .Name x px, .Name y py, .Name z pz => decide (N[i]? = some x) && decide (N[j]? = some y) && decide (N[l]? = some z) && decide (i ≠ j) && decide (i ≠ l) && decide (j ≠ l) && (sc.names.lookup x == some .local) && (sc.names.lookup y == some .local) && (sc.names.lookup z == some .local) &&
        swapB sc [.Name x px, .Name y py, .Name z pz] [ea, eb, ec] && decide (namesOf sc (lineOf [.Name x px, .Name y py, .Name z pz]) [.Name x px, .Name y py, .Name z pz] = [x, y, z]) && !isStar ea && !isStar eb && !isStar ec && chkC N a sc ea && chkC N b sc eb && chkC N c sc ec
    | _, _, _ => false)
  | .asgL i c, sc, .Assign [.Name x _] e _ => decide (N[i]? = some x) && locB sc x && freshC c && chkC N c sc e && (sc.kind == .function) && (!isComp e || isLc c)
  | .aug i o c, sc, .AugAssign (.Name x _) op e _ => decide (N[i]? = some x) && locB sc x && opA o op && chkC N c sc e
  | .setI i ix c, sc, .Assign [.Subscript ea ei _] e _ => nmB N sc i ea && !isSlc ei && !isComp e && chkC N ix sc ei && chkC N c sc e
  | .augI i ix o c, sc, .AugAssign (.Subscript ea ei _) op e _ => nmB N sc i ea && !isSlc ei && opA o op && chkC N ix sc ei && chkC N c sc e
  | .app i c, sc, .Expr (.Call (.Attribute ea m apos) [e] kw cpos) _ => nmB N sc i ea && decide (m = "append") && kw.isEmpty && (apos.endLine == cpos.line) && !isStar e && chkC N c sc e
  | .ext i c, sc, .Expr (.Call (.Attribute ea m apos) [e] kw cpos) _ => nmB N sc i ea && decide (m = "extend") && kw.isEmpty && (apos.endLine == cpos.line) && !isStar e && chkC N c sc e
  | .revS i, sc, .Expr (.Call (.Attribute ea m apos) [] kw cpos) _ => nmB N sc i ea && decide (m = "reverse") && kw.isEmpty && (apos.endLine == cpos.line)
  | .expr c, sc, .Expr e _ => !isComp e && chkC N c sc e
  | .ret c, sc, .Return (some e) _ => chkC N c sc e
  | .retN, _, .Return none _ => true
  | .retF c, sc, .Return (some e) _ => freshC c && chkC N c sc e
  | .retV i, sc, .Return (some e) _ => nmB N sc i e
  | .ife t a b, sc, .If e x y _ => chkC N t sc e && chkB N a sc x && chkB N b sc y
  | .forr t it b, sc, .For tg iter body [] _ => !isSet iter && chkT N t sc (tSlots t) tg && tgOk it tg && chkI N it sc iter && chkB N b sc body
  | .whl t b, sc, .While e body [] _ => chkC N t sc e && chkB N b sc body
  | .brk, _, .Break _ => true
  | .cnt, _, .Continue _ => true
  | .fail, _, _ => true
  | _, _, _ => false
def chkB (N : List Str) : S → Scope → List Stmt → Bool
  | .nop, _, [] => true
  | .seq a b, sc, s :: r => chkS N a sc s && chkB N b sc r
  | .fail, _, _ => true
  | _, _, _ => false
end
def okS (E : En) : S → Prop
  | .seq a b => okS E a ∧ okS E b
  | .asg _ c => okC E c | .par2 _ _ a b => okC E a ∧ okC E b | .par3 _ _ _ a b c => okC E a ∧ okC E b ∧ okC E c | .asgL _ c => okC E c | .aug _ _ c => okC E c
  | .setI _ ix c => okC E ix ∧ okC E c | .augI _ ix _ c => okC E ix ∧ okC E c | .app _ c => okC E c | .ext _ c => okC E c
  | .expr c => okC E c | .ret c => okC E c | .retF c => okC E c
  | .ife t a b => okC E t ∧ okS E a ∧ okS E b | .forr _ it b => okC E it ∧ okS E b | .whl t b => okC E t ∧ okS E b
  | _ => True
/-- what a statement leaves; w: the slots that it may set -/
structure StO (K : PySem.W.Frag) (w : List Nat) (st : DS) (σ : L2.St) (H Hs : Hp) (st' : DS) (σ' : L2.St) (H' Hs' : Hp) : Prop where
  si : SI K st' σ' H' Hs'
  go : Go false st σ H Hs st' σ' H' Hs'
  out : ∀ i, i ∉ w → σ'[i]? = σ[i]?
/-- a list that was not there, or that a slot alone held -/
def NewL (st : DS) (σ : L2.St) (H : Hp) (a : Addr) : Prop := H a = none ∨ Owd st σ a
def AftS (K : PySem.W.Frag) (w : List Nat) (st : DS) (σ : L2.St) (H Hs : Hp) (Dn : Ends) : Out → Prop
  | .nx st' => ∀ σ' H' Hs', StO K w st σ H Hs st' σ' H' Hs' → Dn.nx σ' H'
  | .ret d st' => ∀ v σ' H' Hs', StO K w st σ H Hs st' σ' H' Hs' → Dp [] Hs' v d → Dn.rt v H'
  | .bk st' => ∀ σ' H' Hs', StO K w st σ H Hs st' σ' H' Hs' → Dn.bk σ' H'
  | .retf ds st' => ∀ a xs σ' H' Hs', StO K w st σ H Hs st' σ' H' Hs' → NewL st σ H a → H' a = some (.lst xs) → Hs' a = none → DpAll [] Hs' xs ds → Dn.rt (.ref a) H'
  | .ct st' => ∀ σ' H' Hs', StO K w st σ H Hs st' σ' H' Hs' → Dn.ct σ' H'
section
variable {K : PySem.W.Frag} {w w' : List Nat} {st st1 st2 : DS} {σ σ1 σ2 : L2.St} {H Hs H1 Hs1 H2 Hs2 : Hp} {p : Bool}
theorem StO.refl (I : SI K st σ H Hs) : StO K w st σ H Hs st σ H Hs := ⟨I, .refl, fun _ _ => rfl⟩
theorem StO.trans (a : StO K w st σ H Hs st1 σ1 H1 Hs1) (b : StO K w st1 σ1 H1 Hs1 st2 σ2 H2 Hs2) : StO K w st σ H Hs st2 σ2 H2 Hs2 := ⟨b.si, a.go.trans b.go, fun i h => (b.out i h).trans (a.out i h)⟩
theorem StO.new (t : StO K w st σ H Hs st1 σ1 H1 Hs1) {a : Addr} (n : NewL st1 σ1 H1 a) : NewL st σ H a := by
  rcases n with n | n
  · exact .inl (t.go.al a n)
  · rcases t.go.ows a n with z | z
    · exact .inr z
    · exact .inl z
theorem StO.wide (a : StO K w st σ H Hs st1 σ1 H1 Hs1) (h : ∀ i ∈ w, i ∈ w') : StO K w' st σ H Hs st1 σ1 H1 Hs1 := ⟨a.si, a.go, fun i hi => a.out i fun z => hi (h i z)⟩
theorem StO.of (I : SI K st1 σ H1 Hs1) (g : Go p st σ H Hs st1 σ H1 Hs1) : StO K w st σ H Hs st1 σ H1 Hs1 := ⟨I, g.weak fun z => Bool.noConfusion z, fun _ _ => rfl⟩
theorem AftS.wide {Dn : Ends} {o : Out} (h : AftS K w st σ H Hs Dn o) (hw : ∀ i ∈ w', i ∈ w) : AftS K w' st σ H Hs Dn o := by
  cases o with
  | nx st' => exact fun σ' H' Hs' t => h σ' H' Hs' (t.wide hw)
  | ret d st' => exact fun v σ' H' Hs' t dv => h v σ' H' Hs' (t.wide hw) dv
  | bk st' => exact fun σ' H' Hs' t => h σ' H' Hs' (t.wide hw)
  | retf ds st' => exact fun a xs σ' H' Hs' t => h a xs σ' H' Hs' (t.wide hw)
  | ct st' => exact fun σ' H' Hs' t => h σ' H' Hs' (t.wide hw)
/-- from a later point -/
theorem AftS.from {Dn : Ends} {o : Out} (h : AftS K w st σ H Hs Dn o) (a : StO K w st σ H Hs st1 σ1 H1 Hs1) : AftS K w st1 σ1 H1 Hs1 Dn o := by
  cases o with
  | nx st' => exact fun σ' H' Hs' t => h σ' H' Hs' (a.trans t)
  | ret d st' => exact fun v σ' H' Hs' t dv => h v σ' H' Hs' (a.trans t) dv
  | bk st' => exact fun σ' H' Hs' t => h σ' H' Hs' (a.trans t)
  | retf ds st' => exact fun b xs σ' H' Hs' t n => h b xs σ' H' Hs' (a.trans t) (a.new n)
  | ct st' => exact fun σ' H' Hs' t => h σ' H' Hs' (a.trans t)
end
structure SndS (E : En) (N : List Str) (s : S) : Prop where
  S : ∀ (sc : Scope) (x : Stmt), chkS N s sc x = true → ∀ st o, evS s st = some o → ∀ σ H Hs, SI E.K st σ H Hs → ∀ Dn : Ends, AftS E.K (asgd s) st σ H Hs Dn o → wS E N sc sc x Dn σ H
  B : ∀ (sc : Scope) (xs : List Stmt), chkB N s sc xs = true → ∀ st o, evS s st = some o → ∀ σ H Hs, SI E.K st σ H Hs → ∀ Dn : Ends, AftS E.K (asgd s) st σ H Hs Dn o → wSs E N sc sc xs Dn σ H
section
variable {E : En} {N : List Str} {sc : Scope}
theorem noB {s : S} (h : ∀ sc xs, chkB N s sc xs = false) : ∀ (sc : Scope) (xs : List Stmt), chkB N s sc xs = true → ∀ st o, evS s st = some o → ∀ σ H Hs, SI E.K st σ H Hs → ∀ Dn : Ends, AftS E.K (asgd s) st σ H Hs Dn o → wSs E N sc sc xs Dn σ H :=
  fun sc xs z => absurd z (by rw [h]; decide)
theorem snd_Snop : SndS E N .nop := by
  refine ⟨fun sc x h st o ho σ H Hs I Dn k => ?_, fun sc xs h st o ho σ H Hs I Dn k => ?_⟩
  · cases ho
    cases x <;> first | exact Bool.noConfusion h | skip
    · rename_i e p
      cases e <;> first | exact Bool.noConfusion h | skip
      rename_i c j q
      cases c <;> first | exact Bool.noConfusion h | skip
      exact upS (fun X g => ps_doc) (k σ H Hs (.refl I))
    · exact upS (fun X g => ps_pass) (k σ H Hs (.refl I))
  · cases ho
    cases xs with
    | nil => exact upSs (fun X g => pss_nil) (k σ H Hs (.refl I))
    | cons _ _ => exact Bool.noConfusion h
theorem snd_Sseq (a b : S) (ha : SndS E N a) (hb : SndS E N b) : SndS E N (.seq a b) := by
  refine ⟨fun sc x h => by cases x <;> exact Bool.noConfusion h, fun sc xs h st o ho σ H Hs I Dn k => ?_⟩
  cases xs with
  | nil => exact Bool.noConfusion h
  | cons x xs =>
    simp only [chkB, Bool.and_eq_true] at h
    refine upSs (fun X g => pss_cons g.ps g.pss) ?_
    simp only [evS] at ho
    have w1 : ∀ i ∈ asgd a, i ∈ asgd (.seq a b) := fun i hi => List.mem_append_left _ hi
    have w2 : ∀ i ∈ asgd b, i ∈ asgd (.seq a b) := fun i hi => List.mem_append_right _ hi
    cases ea : evS a st with
    | none => rw [ea] at ho; cases ho
    | some oa =>
      rw [ea] at ho
      cases oa with
      | nx st1 => exact ha.S sc x h.1 st _ ea σ H Hs I _ fun σ1 H1 Hs1 t => hb.B sc xs h.2 st1 o ho σ1 H1 Hs1 t.si Dn ((k.from (t.wide w1)).wide w2)
      | ret d st1 => cases ho; exact ha.S sc x h.1 st _ ea σ H Hs I _ fun v σ1 H1 Hs1 t dv => k v σ1 H1 Hs1 (t.wide w1) dv
      | bk st1 => cases ho; exact ha.S sc x h.1 st _ ea σ H Hs I _ fun σ1 H1 Hs1 t => k σ1 H1 Hs1 (t.wide w1)
      | retf ds st1 => cases ho; exact ha.S sc x h.1 st _ ea σ H Hs I _ fun a xs σ1 H1 Hs1 t => k a xs σ1 H1 Hs1 (t.wide w1)
      | ct st1 => cases ho; exact ha.S sc x h.1 st _ ea σ H Hs I _ fun σ1 H1 Hs1 t => k σ1 H1 Hs1 (t.wide w1)
theorem noBx {s : S} (h1 : ∀ sc, chkB N s sc [] = false) (h2 : ∀ sc x r, chkB N s sc (x :: r) = false) : ∀ (sc : Scope) (xs : List Stmt), chkB N s sc xs = true → ∀ st o, evS s st = some o → ∀ σ H Hs, SI E.K st σ H Hs → ∀ Dn : Ends, AftS E.K (asgd s) st σ H Hs Dn o → wSs E N sc sc xs Dn σ H :=
  noB fun sc xs => by
    cases xs with
    | nil => exact h1 sc
    | cons x r => exact h2 sc x r
theorem snd_Sfail : SndS E N .fail := ⟨fun _ _ _ _ _ ho => (by cases ho), fun _ _ _ _ _ ho => (by cases ho)⟩
theorem snd_Sbrk : SndS E N .brk := by
  refine ⟨fun sc x h st o ho σ H Hs I Dn k => ?_, noBx (fun _ => rfl) fun _ _ _ => rfl⟩
  cases ho
  cases x <;> first | exact Bool.noConfusion h | skip
  exact upS (fun X g => ps_break) (k σ H Hs (.refl I))
theorem snd_Scnt : SndS E N .cnt := by
  refine ⟨fun sc x h st o ho σ H Hs I Dn k => ?_, noBx (fun _ => rfl) fun _ _ _ => rfl⟩
  cases ho
  cases x <;> first | exact Bool.noConfusion h | skip
  exact upS (fun X g => ps_continue) (k σ H Hs (.refl I))
theorem snd_SretN : SndS E N .retN := by
  refine ⟨fun sc x h st o ho σ H Hs I Dn k => ?_, noBx (fun _ => rfl) fun _ _ _ => rfl⟩
  cases ho
  cases x <;> first | exact Bool.noConfusion h | skip
  rename_i v p
  cases v with
  | none => exact upS (fun X g => ps_retN) (k .non σ H Hs (.refl I) .non)
  | some e => exact Bool.noConfusion h
theorem snd_Sret (c : C) (hc : Snd E N c) : SndS E N (.ret c) := by
  refine ⟨fun sc x h st o ho σ H Hs I Dn k => ?_, noBx (fun _ => rfl) fun _ _ _ => rfl⟩
  cases x <;> first | exact Bool.noConfusion h | skip
  rename_i v p
  cases v with
  | none => exact Bool.noConfusion h
  | some e =>
    simp only [evS, Option.map_eq_some_iff] at ho
    obtain ⟨⟨d, st1⟩, e1, e2⟩ := ho
    cases e2
    refine upS (fun X g => ps_ret g.pe) ?_
    exact hc.C sc sc e h st _ d e1 σ H Hs I _ fun v H1 Hs1 I1 g1 d1 => k v σ H1 Hs1 (.of I1 g1) d1
theorem snd_SretF (c : C) (hc : Snd E N c) : SndS E N (.retF c) := by
  refine ⟨fun sc x h st o ho σ H Hs I Dn k => ?_, noBx (fun _ => rfl) fun _ _ _ => rfl⟩
  cases x <;> first | exact Bool.noConfusion h | skip
  rename_i v p
  cases v with
  | none => exact Bool.noConfusion h
  | some e =>
    simp only [chkS, Bool.and_eq_true] at h
    simp only [evS, Option.bind_eq_some_iff] at ho
    obtain ⟨⟨d, st1⟩, e1, e2⟩ := ho
    cases d with
    | list ds =>
      simp only at e2
      split at e2
      · cases e2
        refine upS (fun X g => ps_ret g.pe) ?_
        exact hc.F h.1 sc sc e h.2 st _ ds e1 σ H Hs I _ fun a xs H1 Hs1 I1 g1 n1 n2 n3 n4 n5 => k a xs σ H1 Hs1 (.of I1 g1) (.inl n1) n2 n3 n5
      · cases e2
    | _ => cases e2
theorem snd_SretV (i : Nat) : SndS E N (.retV i) := by
  refine ⟨fun sc x h st o ho σ H Hs I Dn k => ?_, noBx (fun _ => rfl) fun _ _ _ => rfl⟩
  cases x <;> first | exact Bool.noConfusion h | skip
  rename_i v p
  cases v with
  | none => exact Bool.noConfusion h
  | some e =>
    simp only [evS] at ho
    split at ho
    · rename_i ds hs
      cases ho
      obtain ⟨a, xs, h1, h2, h3, h4⟩ := I.ow i ds hs
      refine upS (fun X g => ps_ret (g.nm (show nmB N sc i e = true from h))) ?_
      exact ⟨_, h1, k a xs σ H Hs (.refl I) (.inr ⟨i, ds, hs, h1⟩) h2 h4 h3⟩
    · cases ho
theorem sw_no {e : Expr} {env : Env} {l : Nat} {t : Option Expr} (h : isComp e = false) : swapsWith e t l env = pure false := by
  cases e <;> first | rfl | exact Bool.noConfusion h
theorem snd_Sexpr (c : C) (hc : Snd E N c) : SndS E N (.expr c) := by
  refine ⟨fun sc x h st o ho σ H Hs I Dn k => ?_, noBx (fun _ => rfl) fun _ _ _ => rfl⟩
  cases x <;> first | exact Bool.noConfusion h | skip
  rename_i e p
  simp only [chkS, Bool.and_eq_true, Bool.not_eq_true'] at h
  simp only [evS, Option.map_eq_some_iff] at ho
  obtain ⟨⟨d, st1⟩, e1, e2⟩ := ho
  cases e2
  refine upS (fun X g => ps_expr g.pe (sw_no h.1)) ?_
  exact hc.C sc sc e h.2 st _ d e1 σ H Hs I _ fun v H1 Hs1 I1 g1 d1 => k σ H1 Hs1 (.of I1 g1)
theorem snd_Sife (t : C) (a b : S) (ht : Snd E N t) (ha : SndS E N a) (hb : SndS E N b) : SndS E N (.ife t a b) := by
  refine ⟨fun sc x h st o ho σ H Hs I Dn k => ?_, noBx (fun _ => rfl) fun _ _ _ => rfl⟩
  cases x <;> first | exact Bool.noConfusion h | skip
  rename_i e xa xb p
  simp only [chkS, Bool.and_eq_true] at h
  simp only [evS, Option.bind_eq_some_iff] at ho
  obtain ⟨⟨d, st1⟩, e1, e2⟩ := ho
  cases d with
  | bool r =>
    refine upS (fun X g => ps_if g.pt g.pss g.pss) ?_
    refine ht.T sc sc e h.1.1 st st1 r e1 σ H Hs I _ fun H1 Hs1 I1 g1 => ?_
    have t1 : StO E.K (asgd (.ife t a b)) st σ H Hs st1 σ H1 Hs1 := .of I1 g1
    cases r with
    | true =>
      rw [if_pos rfl]
      exact ha.B sc xa h.1.2 st1 o e2 σ H1 Hs1 I1 Dn ((k.from t1).wide fun i hi => List.mem_append_left _ hi)
    | false =>
      rw [if_neg Bool.false_ne_true]
      exact hb.B sc xb h.2 st1 o e2 σ H1 Hs1 I1 Dn ((k.from t1).wide fun i hi => List.mem_append_right _ hi)
  | _ => cases e2
theorem snd_Sforr (t : T) (it : C) (b : S) (hi : Snd E N it) (hb : SndS E N b) : SndS E N (.forr t it b) := by
  refine ⟨fun sc x h st o ho σ H Hs I Dn k => ?_, noBx (fun _ => rfl) fun _ _ _ => rfl⟩
  cases x <;> first | exact Bool.noConfusion h | skip
  rename_i tg iter body els p
  cases els with
  | cons _ _ => exact Bool.noConfusion h
  | nil =>
    simp only [chkS, Bool.and_eq_true, Bool.not_eq_true'] at h
    obtain ⟨⟨⟨⟨h1, h2⟩, h3⟩, h4⟩, h5⟩ := h
    simp only [evS, Option.bind_eq_some_iff] at ho
    obtain ⟨⟨ds, st1⟩, e1, e2⟩ := ho
    refine upS (t := tFor (wI E N sc sc tg iter) (gT E.K t) (wSs E N sc sc body)) (fun X g => ps_for (by rw [g.exe]; exact PassesOwn.never) g.calm g.pi (pg_T g t h2) g.pss (folded_no h1)) ?_
    refine hi.I sc sc iter tg h4 h3 st st1 ds e1 σ H Hs I _ fun J H1 Hs1 I1 g1 iok => ?_
    obtain ⟨G, Y, w, hG, hY⟩ := iok
    have t1 : StO E.K (asgd (.forr t it b)) st σ H Hs st1 σ H1 Hs1 := .of I1 g1
    simp only at e2
    generalize hf : (fun (d : D) (st1 : DS) => (bindT t d st1).bind fun st2 => evS b st2) = f at e2
    refine for_it w (fun i σ2 H2 => ∃ sti Hs2, StO E.K (asgd (.forr t it b)) st σ H Hs sti σ2 H2 Hs2 ∧ Same Hs1 Hs2 ∧ floop f (ds.drop i) sti = some o) ⟨st1, Hs1, t1, fun _ _ z => z, e2⟩ ?_ ?_ ?_
    · rintro i σ2 H2 hi' ⟨sti, Hs2, t2, s2, _⟩
      exact hG H2 Hs2 s2 t2.si.sub
    · rintro i x σ2 H2 H3 hlt ⟨sti, Hs2, t2, s2, z5⟩ hy
      obtain ⟨d, hd', yo⟩ := hY i x H2 H3 Hs2 hlt s2 t2.si.sub hy
      obtain ⟨Hs3, I3, g3, d3⟩ := si_yield (p := true) t2.si yo
      have hdr : ds.drop i = d :: ds.drop (i + 1) := by
        rw [List.drop_eq_getElem_cons hlt]
        congr 1
        rw [List.getElem?_eq_getElem hlt] at hd'
        exact Option.some.inj hd'
      rw [hdr] at z5
      unfold floop at z5
      have hbind : ∃ stt ob, bindT t d sti = some stt ∧ evS b stt = some ob ∧ f d sti = some ob := by
        cases hfd : f d sti with
        | none => rw [hfd] at z5; cases z5
        | some ob =>
          have hfd' := hfd
          rw [← hf] at hfd'
          simp only [Option.bind_eq_some_iff] at hfd'
          obtain ⟨stt, b1, b2⟩ := hfd'
          exact ⟨stt, ob, b1, b2, rfl⟩
      obtain ⟨stt, ob, b1, b2, b3⟩ := hbind
      rw [b3] at z5
      refine bind_T (p := true) t h2 b1 I3 d3 fun σ3 tt => ?_
      have w1 : ∀ i ∈ tSlots t, i ∈ asgd (.forr t it b) := fun i hi => List.mem_append_left _ hi
      have w2 : ∀ i ∈ asgd b, i ∈ asgd (.forr t it b) := fun i hi => List.mem_append_right _ hi
      have t3 : StO E.K (asgd (.forr t it b)) st σ H Hs stt σ3 H3 Hs3 := t2.trans ⟨tt.si, (g3.trans tt.go).weak fun z => Bool.noConfusion z, fun i hi => tt.out i fun z => hi (w1 i z)⟩
      have s3 : Same Hs1 Hs3 := s2.trans g3.old
      refine hb.B sc body h5 stt ob b2 σ3 H3 Hs3 tt.si _ ?_
      cases ob with
      | nx st4 => exact fun σ4 H4 Hs4 t4 => ⟨st4, Hs4, t3.trans (t4.wide w2), s3.trans t4.go.old, z5⟩
      | ct st4 => exact fun σ4 H4 Hs4 t4 => ⟨st4, Hs4, t3.trans (t4.wide w2), s3.trans t4.go.old, z5⟩
      | bk st4 => cases z5; exact fun σ4 H4 Hs4 t4 => k σ4 H4 Hs4 (t3.trans (t4.wide w2))
      | ret d4 st4 => cases z5; exact fun v σ4 H4 Hs4 t4 dv => k v σ4 H4 Hs4 (t3.trans (t4.wide w2)) dv
      | retf ds4 st4 => cases z5; exact fun a xs σ4 H4 Hs4 t4 n => k a xs σ4 H4 Hs4 (t3.trans (t4.wide w2)) (t3.new n)
    · rintro σ2 H2 ⟨sti, Hs2, t2, s2, z5⟩
      rw [List.drop_length] at z5
      cases z5
      exact k σ2 H2 Hs2 t2
theorem snd_Swhl (t : C) (b : S) (ht : Snd E N t) (hb : SndS E N b) : SndS E N (.whl t b) := by
  refine ⟨fun sc x h st o ho σ H Hs I Dn k => ?_, noBx (fun _ => rfl) fun _ _ _ => rfl⟩
  cases x <;> first | exact Bool.noConfusion h | skip
  rename_i e body els p
  cases els with
  | cons _ _ => exact Bool.noConfusion h
  | nil =>
    simp only [chkS, Bool.and_eq_true] at h
    simp only [evS] at ho
    refine upS (t := tWhile (wT E N sc sc e) (wSs E N sc sc body)) (fun X g => ps_while (by rw [g.exe]; exact PassesOwn.never) g.pt g.pss) ?_
    generalize wfuel = n0 at ho
    refine ⟨fun n σ2 H2 => ∃ sti Hs2, StO E.K (asgd (.whl t b)) st σ H Hs sti σ2 H2 Hs2 ∧ wloop (fun st1 => evC t st1) (fun st1 => evS b st1) n sti = some o, ⟨n0, st, Hs, .refl I, ho⟩, ?_⟩
    rintro n σ2 H2 ⟨sti, Hs2, t2, z⟩
    cases n with
    | zero => cases z
    | succ n =>
      unfold wloop at z
      have hT : ∃ r stt, evC t sti = some (.bool r, stt) ∧ ((r = true ∧ ∃ ob, evS b stt = some ob ∧ ((∃ st4, ob = .nx st4 ∧ wloop (fun st1 => evC t st1) (fun st1 => evS b st1) n st4 = some o) ∨ (∃ st4, ob = .ct st4 ∧ wloop (fun st1 => evC t st1) (fun st1 => evS b st1) n st4 = some o) ∨
          (∃ st4, ob = .bk st4 ∧ o = .nx st4) ∨ (∃ d st4, ob = .ret d st4 ∧ o = .ret d st4) ∨ (∃ ds st4, ob = .retf ds st4 ∧ o = .retf ds st4))) ∨ (r = false ∧ o = .nx stt)) := by
        cases hc : evC t sti with
        | none => rw [hc] at z; cases z
        | some r =>
          obtain ⟨d, stt⟩ := r
          rw [hc] at z
          cases d with
          | bool r =>
            cases r with
            | false => cases z; exact ⟨false, stt, rfl, .inr ⟨rfl, rfl⟩⟩
            | true =>
              simp only at z
              cases hbd : evS b stt with
              | none => rw [hbd] at z; cases z
              | some ob =>
                rw [hbd] at z
                refine ⟨true, stt, rfl, .inl ⟨rfl, ob, (by first | rfl | assumption), ?_⟩⟩
                cases ob with
                | nx st4 => exact .inl ⟨st4, rfl, z⟩
                | ct st4 => exact .inr (.inl ⟨st4, rfl, z⟩)
                | bk st4 => cases z; exact .inr (.inr (.inl ⟨st4, rfl, rfl⟩))
                | ret d st4 => cases z; exact .inr (.inr (.inr (.inl ⟨d, st4, rfl, rfl⟩)))
                | retf ds st4 => cases z; exact .inr (.inr (.inr (.inr ⟨ds, st4, rfl, rfl⟩)))
          | _ => cases z
      obtain ⟨r, stt, hc, hr⟩ := hT
      refine ht.T sc sc e h.1 sti stt r hc σ2 H2 Hs2 t2.si _ fun H3 Hs3 I3 g3 => ?_
      have t3 : StO E.K (asgd (.whl t b)) st σ H Hs stt σ2 H3 Hs3 := t2.trans (.of I3 g3)
      rcases hr with ⟨rfl, ob, hob, hk⟩ | ⟨rfl, rfl⟩
      · rw [if_pos rfl]
        refine ⟨fun σ' H' => ∃ sti Hs2, StO E.K (asgd (.whl t b)) st σ H Hs sti σ' H' Hs2 ∧ wloop (fun st1 => evC t st1) (fun st1 => evS b st1) n sti = some o, fun σ' H' q => ⟨n, Nat.lt_succ_self n, q⟩, ?_⟩
        refine hb.B sc body h.2 stt ob hob σ2 H3 Hs3 I3 _ ?_
        rcases hk with ⟨st4, rfl, q⟩ | ⟨st4, rfl, q⟩ | ⟨st4, rfl, rfl⟩ | ⟨d, st4, rfl, rfl⟩ | ⟨ds, st4, rfl, rfl⟩
        · exact fun σ4 H4 Hs4 t4 => ⟨st4, Hs4, t3.trans t4, q⟩
        · exact fun σ4 H4 Hs4 t4 => ⟨st4, Hs4, t3.trans t4, q⟩
        · exact fun σ4 H4 Hs4 t4 => k σ4 H4 Hs4 (t3.trans t4)
        · exact fun v σ4 H4 Hs4 t4 dv => k v σ4 H4 Hs4 (t3.trans t4) dv
        · exact fun a xs σ4 H4 Hs4 t4 n => k a xs σ4 H4 Hs4 (t3.trans t4) (t3.new n)
      · rw [if_neg Bool.false_ne_true]
        exact k σ2 H3 Hs3 t3
end
end Sm

set_option Elab.async false
set_option linter.all false
set_option maxRecDepth 100000
set_option maxHeartbeats 4000000
namespace Sm
open PySem PySem.Spec PyProof.Rows L2
/-! ### names set -/
def gdStor (X : Cx) (sc : Scope) : Prop := ∀ x, locB sc x = true → Loc X.env.scope x ∧ (X.fn x = true ∨ X.env.scope.names.lookup x = some .local)
theorem sw_lc {ee : Expr} {gs : List Comprehension} {scope : Scope} {p px : Pos} {x : Str} {l : Nat} {env : Env} : swapsWith (.ListComp ee gs scope p) (some (.Name x px)) l env = pure (env.blockKind == .function && env.kindOf x == some .local && px.line == p.line
      && !(scope.names.any fun (n, k) => n == x && (k == .local || k == .cell))) := rfl
section
variable {E : En} {N : List Str} {sc : Scope}
theorem kind_eq {sc : Scope} (h : (sc.kind == ScopeKind.function) = true) : sc.kind = .function := by
  cases hk : sc.kind <;> rw [hk] at h <;> first | rfl | exact absurd h (by decide)
/-- x = e: the value goes to the slot -/
theorem set_rule {i : Nat} {x : Str} {c : C} {e : Expr} {px p : Pos} (hn : N[i]? = some x) (hx : locB sc x = true) (hk : (sc.kind == .function) = true) (hc : chkC N c sc e = true) (hl : (!isComp e || isLc c) = true) {Dn : Ends} {σ : L2.St} {H : Hp}
    (k1 : wE E N sc sc e σ H (fun v H1 => Dn.nx (σ.set i (some v)) H1))
    (k2 : ∀ (elt it cond : C) (own : List Nat) (t : T) (ee tg iter : Expr) (ifs : List Expr) (scope : Scope), c = .lc elt own t it cond → chkI N it sc iter = true → tgOk it tg = true → chkT N t scope own tg = true → chkC N elt (relS scope sc) ee = true →
      (match ifs with | [] => isNop cond | [c] => !isNop cond && chkC N cond (relS scope sc) c | _ => false) = true →
      tLc (wI E N sc sc tg iter) (gT E.K t) (ttC E N (relS scope sc) scope ifs) (wE E N (relS scope sc) scope ee) own σ H (fun v H1 => Dn.nx (σ.set i (some v)) H1)) : wS E N sc sc (.Assign [.Name x px] e p) Dn σ H := by
  cases hcp : isComp e with
  | false => exact upS (fun X g => ps_set (i := i) (by rw [g.eN]; exact g.nd) (by rw [g.eN]; exact hn) (g.stor x hx).1 g.pe (sw_no hcp) (g.stor x hx).2) k1
  | true =>
    rw [hcp] at hl
    cases c <;> first | exact Bool.noConfusion hl | skip
    rename_i elt own t it cond
    obtain ⟨ee, tg, iter, ifs, scope, p2, rfl, h1, h2, h3, h4, h5, h6, h7⟩ := inv_lc hc
    have hkf := kind_eq hk
    have hbk : ∀ X, Gd E N sc sc X → X.env.blockKind = .function := fun X g => by
      unfold Env.blockKind
      rw [g.esc, hkf]
      rfl
    cases hb : ((sc.names.lookup x == some .local) && px.line == p2.line && !(scope.names.any fun (n, k) => n == x && (k == .local || k == .cell))) with
    | false =>
      refine upS (fun X g => ps_set (i := i) (by rw [g.eN]; exact g.nd) (by rw [g.eN]; exact hn) (g.stor x hx).1 g.pe ?_ (g.stor x hx).2) k1
      rw [sw_lc, hbk X g]
      show pure ((ScopeKind.function == ScopeKind.function) && (X.env.scope.names.lookup x == some .local) && px.line == p2.line && !(scope.names.any fun (n, k) => n == x && (k == .local || k == .cell))) = _
      rw [g.esc]
      have e1 : (ScopeKind.function == ScopeKind.function) = true := rfl
      rw [e1, Bool.true_and, hb]
    | true =>
      have hb' := hb
      simp only [Bool.and_eq_true, beq_iff_eq] at hb'
      refine upS (t := tAsg (tLc (wI E N sc sc tg iter) (gT E.K t) (ttC E N (relS scope sc) scope ifs) (wE E N (relS scope sc) scope ee) own) (gName i)) (fun X g => ?_) (k2 elt it cond own t ee tg iter ifs scope rfl h2 h3 h4 h6 h7)
      have z := ps_setLc (i := i) (y := x) (py := px) (elt := ee) (ifs := ifs) (pos := p2) (spos := p) (own := own.map fun i => (N.getD i "", i)) (wi := wI E N sc sc tg iter) (g := gT E.K t) (tt := ttC E N (relS scope sc) scope ifs) (te := wE E N (relS scope sc) scope ee)
        g.calm (by rw [g.eN]; exact g.nd) (by rw [g.eN]; exact hn) (by rw [g.esc]; exact hb'.1.1) (by
          rw [sw_lc, hbk X g]
          show pure ((ScopeKind.function == ScopeKind.function) && (X.env.scope.names.lookup x == some .local) && px.line == p2.line && !(scope.names.any fun (n, k) => n == x && (k == .local || k == .cell))) = _
          rw [g.esc]
          have e1 : (ScopeKind.function == ScopeKind.function) = true := rfl
          rw [e1, Bool.true_and, hb]) (g.pi (tg := tg) (e := iter)) (by rw [g.eN, g.esc]; exact h5) (fun s H Ca cl fp => pg_T (gd_blk g s H Ca cl fp) t h4) (fun s H Ca cl fp => pts_C (gd_blk g s H Ca cl fp) h7) (fun s H Ca cl fp => (gd_blk g s H Ca cl fp).pe) (folded_no h1)
      have ev : (own.map fun i => (N.getD i "", i)).map (·.2) = own := by
        rw [List.map_map]
        exact List.map_id' own
      rw [ev] at z
      exact z
theorem snd_SasgL (i : Nat) (c : C) (hok : okC E c) : SndS E N (.asgL i c) := by
  have hc := snd_all (N := N) c hok
  refine ⟨fun sc x h st o ho σ H Hs I Dn k => ?_, noBx (fun _ => rfl) fun _ _ _ => rfl⟩
  cases x <;> first | exact Bool.noConfusion h | skip
  rename_i tgs e p
  match tgs, h with
  | [.Name x px], h =>
    simp only [chkS, Bool.and_eq_true, decide_eq_true_eq] at h
    obtain ⟨⟨⟨⟨⟨h1, h2⟩, h3⟩, h4⟩, h5⟩, h6⟩ := h
    simp only [evS, Option.bind_eq_some_iff] at ho
    obtain ⟨⟨d, st1⟩, e1, e2⟩ := ho
    cases d with
    | list ds =>
      simp only at e2
      split at e2
      · rename_i hi
        cases e2
        rw [Bool.and_eq_true, decide_eq_true_eq] at hi
        have fin : AftF E.K (pureC c) st σ H Hs st1 ds (fun v H1 => Dn.nx (σ.set i (some v)) H1) := fun a xs H' Hs' I' g ha ha' hs no hx => by
          obtain ⟨I2, ow2⟩ := si_setO I' hi.2 ha' hx hs no
          refine k _ H' Hs' ⟨I2, ⟨g.fr, g.al, g.old, g.new, fun b z => ?_, fun z => Bool.noConfusion z⟩, fun j hj => ?_⟩
          · rcases ow2 b z with w | w
            · exact g.ows b w
            · subst w; exact .inr ha
          · have hne : i ≠ j := by rintro rfl; exact hj (List.mem_singleton.mpr rfl)
            rw [List.getElem?_set_ne hne]
        refine set_rule h1 h2 h5 h4 (by simpa [Bool.or_eq_true] using h6) (hc.F h3 sc sc e h4 st st1 ds e1 σ H Hs I _ fin) ?_
        rintro elt it cond own t ee tg iter ifs scope rfl q1 q2 q3 q4 q5
        exact lc_val elt own t it cond (snd_all elt hok.1) (snd_all it hok.2.1) (snd_all cond hok.2.2) q1 q2 q3 q4 q5 e1 I fin
      · cases e2
    | _ => cases e2
theorem snd_Sasg (t : T) (c : C) (hok : okC E c) : SndS E N (.asg t c) := by
  have hc := snd_all (N := N) c hok
  refine ⟨fun sc x h st o ho σ H Hs I Dn k => ?_, noBx (fun _ => rfl) fun _ _ _ => rfl⟩
  cases x <;> first | exact Bool.noConfusion h | skip
  rename_i tgs e p
  match tgs, h with
  | [tg], h =>
    simp only [chkS, Bool.and_eq_true] at h
    obtain ⟨⟨h1, h2⟩, h3⟩ := h
    simp only [evS, Option.bind_eq_some_iff, Option.map_eq_some_iff] at ho
    obtain ⟨⟨d, st1⟩, e1, st2, e2, e3⟩ := ho
    cases e3
    have fin : ∀ {H1 Hs1 : Hp} {v : V}, SI E.K st1 σ H1 Hs1 → Go (pureC c) st σ H Hs st1 σ H1 Hs1 → Dp [] Hs1 v d → gT E.K t v σ H1 Dn.nx := fun {H1 Hs1 v} I1 g1 d1 =>
      bind_T (p := true) t h1 e2 I1 d1 fun σ' tt => k σ' H1 Hs1 ⟨tt.si, (g1.trans tt.go).weak fun z => Bool.noConfusion z, tt.out⟩
    cases tg <;> first | exact Bool.noConfusion h3 | skip
    · -- a name
      rename_i x px
      cases t <;> first | exact Bool.noConfusion h1 | skip
      rename_i i
      simp only [chkT, Bool.and_eq_true, decide_eq_true_eq] at h1
      have h3' : (sc.kind == ScopeKind.function) = true ∧ (!isComp e || isLc c) = true := by
        have : ((sc.kind == ScopeKind.function) && (!isComp e || isLc c)) = true := h3
        rw [Bool.and_eq_true] at this
        exact this
      refine set_rule h1.1.1 h1.1.2 h3'.1 h2 h3'.2 (hc.C sc sc e h2 st st1 d e1 σ H Hs I _ fun v H1 Hs1 I1 g1 d1 => fin I1 g1 d1) ?_
      rintro elt it cond own t ee tg iter ifs scope rfl q1 q2 q3 q4 q5
      have hl : ∃ l, d = .list l := by
        simp only [evC, Option.bind_eq_some_iff, Option.map_eq_some_iff] at e1
        obtain ⟨r, _, q, _, e3⟩ := e1
        cases e3
        exact ⟨_, rfl⟩
      obtain ⟨l, rfl⟩ := hl
      exact lc_val elt own t it cond (snd_all elt hok.1) (snd_all it hok.2.1) (snd_all cond hok.2.2) q1 q2 q3 q4 q5 e1 I (aft_of_F fun v H1 Hs1 I1 g1 d1 => fin I1 g1 d1)
    · -- several names
      rename_i ts kk pt
      have hsw : ∀ (l : Nat) (env : Env), swapsWithSole [.Tuple ts kk pt] e l env = pure false := fun l env => by cases e <;> rfl
      have hst : ∀ X, Gd E N sc sc X → swappedStores [.Tuple ts kk pt] e X.env = pure none := fun X g => by
        cases e <;> first | rfl | skip
        rename_i vs k2 p2
        exact swap_none g.esc h3
      refine upS (fun X g => ps_asg g.pe (pg_T g t h1) (hsw _ _) (hst X g) rfl) ?_
      exact hc.C sc sc e h2 st st1 d e1 σ H Hs I _ fun v H1 Hs1 I1 g1 d1 => fin I1 g1 d1
theorem beq_lookup {sc : Scope} {x : Str} (h : (sc.names.lookup x == some NameKind.local) = true) : sc.names.lookup x = some .local := by
  simpa using h
theorem snd_Spar2 (i j : Nat) (a b : C) (ha : Snd E N a) (hb : Snd E N b) : SndS E N (.par2 i j a b) := by
  refine ⟨fun sc x h st o ho σ H Hs I Dn k => ?_, noBx (fun _ => rfl) fun _ _ _ => rfl⟩
  cases x <;> first | exact Bool.noConfusion h | skip
  rename_i tgs e p
  match tgs, e, h with
  | [.Tuple [tx, ty] k1 p1], .Tuple [ea, eb] k2 p2, h =>
    cases tx <;> first | exact Bool.noConfusion h | skip
    rename_i x px
    cases ty <;> first | exact Bool.noConfusion h | skip
    rename_i y py
    simp only [chkS, Bool.and_eq_true, decide_eq_true_eq, Bool.not_eq_true'] at h
    obtain ⟨⟨⟨⟨⟨⟨⟨⟨⟨⟨h1, h2⟩, h3⟩, h4⟩, h5⟩, h6⟩, h7⟩, h8⟩, h9⟩, h10⟩, h11⟩ := h
    simp only [evS, Option.bind_eq_some_iff] at ho
    obtain ⟨⟨da, st1⟩, e1, ⟨db, st2⟩, e2, e3⟩ := ho
    simp only at e3
    split at e3
    · rename_i hl
      rw [Bool.and_eq_true, decide_eq_true_eq, decide_eq_true_eq] at hl
      cases e3
      refine upS (fun X g => ps_par (i := i) (j := j) g.calm (by rw [g.eN]; exact g.nd) (by rw [g.eN]; exact h1) (by rw [g.eN]; exact h2) h3 (by rw [g.esc]; exact beq_lookup h4) (by rw [g.esc]; exact beq_lookup h5) (pa_cons g.pe (pa_cons g.pe pa_nil (star_ne h9)) (star_ne h8))
        (by rw [swap_some g.esc h6, h7]) rfl) ?_
      refine ha.C sc sc ea h10 st st1 da e1 σ H Hs I _ fun v H1 Hs1 I1 g1 d1 => ?_
      refine hb.C sc sc eb h11 st1 st2 db e2 σ H1 Hs1 I1 _ fun u H2 Hs2 I2 g2 d2 => ?_
      refine ⟨v, u, rfl, ?_⟩
      obtain ⟨I3, g3⟩ := si_set (p := true) I2 hl.1 (g2.dp d1)
      obtain ⟨I4, g4⟩ := si_set (p := true) I3 (by rw [List.length_set]; exact hl.2) d2
      refine k _ H2 Hs2 ⟨I4, (((g1.trans g2).trans g3).trans g4).weak fun z => Bool.noConfusion z, fun m hm => ?_⟩
      have z1 : i ≠ m := by rintro rfl; exact hm (by simp [asgd])
      have z2 : j ≠ m := by rintro rfl; exact hm (by simp [asgd])
      rw [List.getElem?_set_ne z2, List.getElem?_set_ne z1]
    · cases e3
theorem snd_Spar3 (i j l : Nat) (a b c : C) (ha : Snd E N a) (hb : Snd E N b) (hc : Snd E N c) : SndS E N (.par3 i j l a b c) := by
  refine ⟨fun sc x h st o ho σ H Hs I Dn k => ?_, noBx (fun _ => rfl) fun _ _ _ => rfl⟩
  cases x <;> first | exact Bool.noConfusion h | skip
  rename_i tgs e p
  match tgs, e, h with
  | [.Tuple [tx, ty, tz] k1 p1], .Tuple [ea, eb, ec] k2 p2, h =>
    cases tx <;> first | exact Bool.noConfusion h | skip
    rename_i x px
    cases ty <;> first | exact Bool.noConfusion h | skip
    rename_i y py
    cases tz <;> first | exact Bool.noConfusion h | skip
    rename_i z pz
    simp only [chkS, Bool.and_eq_true, decide_eq_true_eq, Bool.not_eq_true'] at h
    obtain ⟨⟨⟨⟨⟨⟨⟨⟨⟨⟨⟨⟨⟨⟨⟨⟨h1, h2⟩, h2'⟩, h3⟩, h3'⟩, h3''⟩, h4⟩, h5⟩, h5'⟩, h6⟩, h7⟩, h8⟩, h9⟩, h9'⟩, h10⟩, h11⟩, h12⟩ := h
    simp only [evS, Option.bind_eq_some_iff] at ho
    obtain ⟨⟨da, st1⟩, e1, ⟨db, st2⟩, e2, ⟨dc, st3⟩, e4, e3⟩ := ho
    simp only at e3
    split at e3
    · rename_i hl
      rw [Bool.and_eq_true, Bool.and_eq_true, decide_eq_true_eq, decide_eq_true_eq, decide_eq_true_eq] at hl
      cases e3
      refine upS (fun X g => ps_par3 (i := i) (j := j) (l := l) g.calm (by rw [g.eN]; exact g.nd) (by rw [g.eN]; exact h1) (by rw [g.eN]; exact h2) (by rw [g.eN]; exact h2') h3 h3' h3'' (by rw [g.esc]; exact beq_lookup h4) (by rw [g.esc]; exact beq_lookup h5) (by rw [g.esc]; exact beq_lookup h5')
        (pa_cons g.pe (pa_cons g.pe (pa_cons g.pe pa_nil (star_ne h9')) (star_ne h9)) (star_ne h8)) (by rw [swap_some g.esc h6, h7]) rfl) ?_
      refine ha.C sc sc ea h10 st st1 da e1 σ H Hs I _ fun v H1 Hs1 I1 g1 d1 => ?_
      refine hb.C sc sc eb h11 st1 st2 db e2 σ H1 Hs1 I1 _ fun u H2 Hs2 I2 g2 d2 => ?_
      refine hc.C sc sc ec h12 st2 st3 dc e4 σ H2 Hs2 I2 _ fun w H3 Hs3 I3 g3 d3 => ?_
      refine ⟨v, u, w, rfl, ?_⟩
      obtain ⟨I4, g4⟩ := si_set (p := true) I3 hl.1.1 (g3.dp (g2.dp d1))
      obtain ⟨I5, g5⟩ := si_set (p := true) I4 (by rw [List.length_set]; exact hl.1.2) (g3.dp d2)
      obtain ⟨I6, g6⟩ := si_set (p := true) I5 (by rw [List.length_set, List.length_set]; exact hl.2) d3
      refine k _ H3 Hs3 ⟨I6, (((((g1.trans g2).trans g3).trans g4).trans g5).trans g6).weak fun z => Bool.noConfusion z, fun m hm => ?_⟩
      have z1 : i ≠ m := by rintro rfl; exact hm (by simp [asgd])
      have z2 : j ≠ m := by rintro rfl; exact hm (by simp [asgd])
      have z3 : l ≠ m := by rintro rfl; exact hm (by simp [asgd])
      rw [List.getElem?_set_ne z3, List.getElem?_set_ne z2, List.getElem?_set_ne z1]
    · cases e3
theorem snd_Saug (i : Nat) (o : BO) (c : C) (hc : Snd E N c) : SndS E N (.aug i o c) := by
  refine ⟨fun sc x h st ob ho σ H Hs I Dn k => ?_, noBx (fun _ => rfl) fun _ _ _ => rfl⟩
  cases x <;> first | exact Bool.noConfusion h | skip
  rename_i tg op e p
  cases tg <;> first | exact Bool.noConfusion h | skip
  rename_i x px
  simp only [chkS, Bool.and_eq_true, decide_eq_true_eq] at h
  obtain ⟨⟨⟨h1, h2⟩, h3⟩, h4⟩ := h
  simp only [evS] at ho
  split at ho
  · rename_i kk hs
    simp only [Option.bind_eq_some_iff] at ho
    obtain ⟨⟨d, st1⟩, e1, e2⟩ := ho
    obtain ⟨v, hv, dv⟩ := I.sh i _ hs
    cases dv
    have hi : i < st.length := (List.getElem?_eq_some_iff.mp hs).1
    have main : ∀ (f : Int → Int → Int) (jj : Int), d = .int jj → ob = .nx (st1.set i (.sh (.int (f kk jj)))) → tAug i (wE E N sc sc e) (ipI f) Dn σ H := fun f jj ed eo => by
      subst ed
      subst eo
      refine ⟨_, hv, ?_⟩
      refine hc.C sc sc e h4 st st1 _ e1 σ H Hs I _ fun u H1 Hs1 I1 g1 d1 => ?_
      cases d1
      refine ⟨kk, jj, rfl, rfl, ?_⟩
      obtain ⟨I2, g2⟩ := si_set (i := i) (p := true) I1 (by rw [I1.len, ← I.len]; exact hi) (Dp.int (K := []) (H := Hs1) (f kk jj))
      refine k _ H1 Hs1 ⟨I2, (g1.trans g2).weak fun z => Bool.noConfusion z, fun m hm => ?_⟩
      have z1 : i ≠ m := by rintro rfl; exact hm (by simp [asgd])
      rw [List.getElem?_set_ne z1]
    cases o <;> cases op <;> first | exact Bool.noConfusion h3 | skip
    · cases d with
      | int jj => cases e2; exact upS (fun X g => ps_aug (i := i) (by rw [g.eN]; exact g.nd) (by rw [g.eN]; exact h1) (g.stor x h2).1 g.pe ip_add (g.stor x h2).2) (main (fun i j => i + j) jj rfl rfl)
      | _ => cases e2
    · cases d with
      | int jj => cases e2; exact upS (fun X g => ps_aug (i := i) (by rw [g.eN]; exact g.nd) (by rw [g.eN]; exact h1) (g.stor x h2).1 g.pe ip_sub (g.stor x h2).2) (main (fun i j => i - j) jj rfl rfl)
      | _ => cases e2
  · cases ho
/-! ### a list of its own changed -/
theorem snd_SsetI (i : Nat) (ix c : C) (hx : Snd E N ix) (hc : Snd E N c) : SndS E N (.setI i ix c) := by
  refine ⟨fun sc x h st ob ho σ H Hs I Dn k => ?_, noBx (fun _ => rfl) fun _ _ _ => rfl⟩
  cases x <;> first | exact Bool.noConfusion h | skip
  rename_i tgs e p
  match tgs, h with
  | [.Subscript ea ei p1], h =>
    simp only [chkS, Bool.and_eq_true, Bool.not_eq_true'] at h
    obtain ⟨⟨⟨⟨h1, h2⟩, h3⟩, h4⟩, h5⟩ := h
    simp only [evS, Option.bind_eq_some_iff] at ho
    obtain ⟨⟨d, st1⟩, e1, _, e0, ⟨dk, st2⟩, e2, e3⟩ := ho
    simp only at e3
    split at e3
    · rename_i kk ds hs
      simp only [Option.map_eq_some_iff] at e3
      obtain ⟨j, e4, e5⟩ := e3
      cases e5
      refine upS (fun X g => ps_asg g.pe (pg_sub (g.nm h1) g.pe set_list (by intro v; cases ei <;> first | rfl | exact Bool.noConfusion h2)) (by cases e <;> first | rfl | exact Bool.noConfusion h3) rfl rfl) ?_
      refine hc.C sc sc e h5 st st1 d e1 σ H Hs I _ fun v H1 Hs1 I1 g1 d1 => ?_
      obtain ⟨a, hv⟩ := own_ok I1 e0
      refine ⟨_, hv, ?_⟩
      refine hx.C sc sc ei h4 st1 st2 _ e2 σ H1 Hs1 I1 _ fun u H2 Hs2 I2 g2 d2 => ?_
      cases d2
      obtain ⟨a', xs, w1, w2, w3, w4⟩ := I2.ow i ds hs
      rw [hv] at w1
      cases w1
      refine ⟨a, xs, kk, j, rfl, rfl, w2, by rw [dps_len w3]; exact e4, ?_⟩
      obtain ⟨I3, g3⟩ := si_write (xs := []) I2 hs hv (dps_set j w3 (g2.dp d1))
      exact k _ _ Hs2 ⟨I3, ((g1.trans g2).trans g3).weak fun z => Bool.noConfusion z, fun _ _ => rfl⟩
    · cases e3
theorem pget_list {X : Cx} : PGet X (rIxL X.K) := by
  intro pins s σ H x y v u Q I rx ry h
  obtain ⟨p, xs, i, z, rfl, rfl, hq, he, q⟩ := h
  cases rx
  obtain ⟨t, rfl⟩ := ry
  obtain ⟨its, r, pl, hz⟩ := I.list hq
  obtain ⟨j, h1, h2, h3, h4, h5⟩ := atI_get he
  obtain ⟨w, ew, rw'⟩ := r.get h2
  have hl := r.length
  have hn := line63
  have fin : EP X pins σ Q w s := ⟨z, H, I, rw', q⟩
  by_cases h0 : 0 ≤ i
  · have hj : i.toNat = j := by
      rw [seqIndex_of h0 h5] at h1
      exact Option.some.inj h1
    exact wpAny_getItem_list pl.isList h0 (by omega) (by rw [hj]; simpa using ew) fin
  · have hj : (i + (its.toArray.size : Int)).toNat = j := by
      rw [seqIndex_neg (by omega) h4] at h1
      rw [List.size_toArray, ← hl]
      exact Option.some.inj h1
    exact wpAny_getItem_list_neg pl.isList (by omega) (by rw [List.size_toArray] <;> omega) (by omega) (by rw [hj]; simpa using ew) fin
theorem snd_SaugI (i : Nat) (ix : C) (o : BO) (c : C) (hx : Snd E N ix) (hc : Snd E N c) : SndS E N (.augI i ix o c) := by
  refine ⟨fun sc x h st ob ho σ H Hs I Dn k => ?_, noBx (fun _ => rfl) fun _ _ _ => rfl⟩
  cases x <;> first | exact Bool.noConfusion h | skip
  rename_i tg op e p
  cases tg <;> first | exact Bool.noConfusion h | skip
  rename_i ea ei p1
  simp only [chkS, Bool.and_eq_true, Bool.not_eq_true'] at h
  obtain ⟨⟨⟨⟨h1, h2⟩, h3⟩, h4⟩, h5⟩ := h
  simp only [evS, Option.bind_eq_some_iff] at ho
  obtain ⟨_, e0, ⟨dk, st1⟩, e1, e2⟩ := ho
  simp only at e2
  split at e2
  · rename_i kk ds hs
    split at e2
    · rename_i xx hat
      simp only [Option.bind_eq_some_iff] at e2
      obtain ⟨⟨dy, st2⟩, e3, e4⟩ := e2
      obtain ⟨a, hv⟩ := own_ok I e0
      have main : ∀ (f : Int → Int → Int) (yy : Int) (es : List D) (j : Nat), dy = .int yy → st2[i]? = some (.ow es) → ixN es.length kk = some j → ob = .nx (st2.set i (.ow (es.set j (.int (f xx yy))))) →
          tAugS (tVar i) (wE E N sc sc ei) (wE E N sc sc e) (rIxL E.K) (ipI f) rSetL Dn σ H := fun f yy es j ed hs2 hj eo => by
        subst ed
        subst eo
        refine ⟨_, hv, ?_⟩
        refine hx.C sc sc ei h4 st st1 _ e1 σ H Hs I _ fun u H1 Hs1 I1 g1 d1 => ?_
        cases d1
        obtain ⟨a', xs, w1, w2, w3, w4⟩ := I1.ow i ds hs
        rw [hv] at w1
        cases w1
        obtain ⟨w, z1, z2⟩ := at_get w3 hat
        cases z2
        refine ⟨a, xs, kk, _, rfl, rfl, .inl (.inl w2), z1, ?_⟩
        refine hc.C sc sc e h5 st1 st2 _ e3 σ H1 Hs1 I1 _ fun u2 H2 Hs2 I2 g2 d2 => ?_
        cases d2
        refine ⟨xx, yy, rfl, rfl, ?_⟩
        obtain ⟨a', ys, q1, q2, q3, q4⟩ := I2.ow i es hs2
        rw [hv] at q1
        cases q1
        refine ⟨a, ys, kk, j, rfl, rfl, q2, by rw [dps_len q3]; exact hj, ?_⟩
        obtain ⟨I3, g3⟩ := si_write (xs := []) I2 hs2 hv (dps_set j q3 (.int (f xx yy)))
        exact k _ _ Hs2 ⟨I3, ((g1.trans g2).trans g3).weak fun z => Bool.noConfusion z, fun _ _ => rfl⟩
      have hug : ∀ ov iv new, augStore ei ov iv new = (do holding [new, ov, iv] (setItem ov iv new); release [new, ov, iv] []; pure .next) := fun ov iv new => by
        cases ei <;> first | rfl | exact Bool.noConfusion h2
      cases o <;> cases op <;> first | exact Bool.noConfusion h3 | skip
      · split at e4
        · rename_i hq1 hq2 hq3
          simp only [Option.map_eq_some_iff] at e4
          obtain ⟨j, e5, e6⟩ := e4
          exact upS (t := tAugS (tVar i) (wE E N sc sc ei) (wE E N sc sc e) (rIxL E.K) (ipI fun i j => i + j) rSetL) (fun X g => by rw [← g.eK]; exact ps_augS (g.nm h1) g.pe pget_list g.pe ip_add set_list hug) (main (fun i j => i + j) _ _ j (by assumption) (by assumption) e5 e6.symm)
        · rename_i hq1 hq2 hq3; cases hq2
        · cases e4
      · split at e4
        · rename_i hq1 hq2 hq3; cases hq2
        · simp only [Option.map_eq_some_iff] at e4
          obtain ⟨j, e5, e6⟩ := e4
          exact upS (t := tAugS (tVar i) (wE E N sc sc ei) (wE E N sc sc e) (rIxL E.K) (ipI fun i j => i - j) rSetL) (fun X g => by rw [← g.eK]; exact ps_augS (g.nm h1) g.pe pget_list g.pe ip_sub set_list hug) (main (fun i j => i - j) _ _ j (by assumption) (by assumption) e5 e6.symm)
        · cases e4
    · cases e2
  · cases e2
theorem mt_extendS {X : Cx} : MtM X "list.extend" (fun x vs H Q => ∃ l b xs zs, x = .ref l ∧ vs = [.ref b] ∧ H l = some (.lst xs) ∧ Rd H b (.lst zs) ∧ xs.length + zs.length ≤ sizeLine ∧ Q .non (upd H l (.lst (xs ++ zs)))) := by
  intro pins s σ H x vs v us Q I rx rv h
  obtain ⟨l, b, xs, zs, rfl, rfl, hH, hB, hz, q⟩ := h
  cases rx
  obtain ⟨u, rfl, ru⟩ := rv.one
  cases ru
  obtain ⟨z, its, n, r, hl, e⟩ := I.lstM hH
  obtain ⟨z2, its2, n2, r2, hl2, e2⟩ := rd_lst I hB
  have hsz : its.toArray.size + its2.toArray.size ≤ sizeLine := by rw [List.size_toArray, List.size_toArray]; omega
  have hlong : ¬ (!its.toArray.isEmpty && Builtin.List.listTooLong (its.toArray.size + its2.toArray.size)) = true := by
    rw [notLongL hsz, Bool.and_false]
    exact Bool.false_ne_true
  refine call_meets F.slot_list_extend ⟨_, e, rfl⟩ F.entry_list_extend (F.args_list_extend_2 _ _)
    (AutoSeq1.list_extend_list_list_0 l its.toArray n b its2.toArray n2 hlong (by rw [List.size_toArray]; omega) (by omega)) ⟨e, e2, ?_⟩
  refine ⟨.non, _, I.lset (its' := its ++ its2) hH e (by simp) (r.append r2) ?_, rfl, q⟩
  rw [List.length_append]
  omega
theorem meth_line {a b : Nat} (h : (a == b) = true) : (a == b) = true := h
theorem nm_base {env : Env} {i : Nat} {ea : Expr} {m : Str} (h : nmB N sc i ea = true) : attributeBase ea m env (eval ea env) = eval ea env := by
  cases ea <;> first | rfl | exact Bool.noConfusion h
theorem few_ok {env : Env} {pos : Pos} {e : Expr} (h : isStar e = false) : ((backTo pos (starEach (e :: []) env)).all (fun x => !x.1) && (backToKw pos (keywordEach [] env)).all (fun x => x.1.isSome)
      && decide ((e :: []).length + ([] : List Keyword).length + (if ([] : List Keyword).isEmpty then 0 else 1) < 30)) = true := by
  rw [star_ne h]
  rfl
theorem snd_Sapp (i : Nat) (c : C) (hc : Snd E N c) : SndS E N (.app i c) := by
  refine ⟨fun sc x h st ob ho σ H Hs I Dn k => ?_, noBx (fun _ => rfl) fun _ _ _ => rfl⟩
  cases x <;> first | exact Bool.noConfusion h | skip
  rename_i ex p
  match ex, h with
  | .Call (.Attribute ea m apos) [e] kw cpos, h =>
    simp only [chkS, Bool.and_eq_true, decide_eq_true_eq, List.isEmpty_iff, Bool.not_eq_true'] at h
    obtain ⟨⟨⟨⟨⟨h1, h2⟩, h3⟩, h4⟩, h5⟩, h6⟩ := h
    subst h2
    subst h3
    simp only [evS, Option.bind_eq_some_iff] at ho
    obtain ⟨_, e0, ⟨d, st1⟩, e1, e2⟩ := ho
    simp only at e2
    split at e2
    · rename_i ds hs
      split at e2
      · rename_i hl
        cases e2
        obtain ⟨a, hv⟩ := own_ok I e0
        refine upS (t := tDrop (tBM E.K "list" rAppend (tVar i) (tCons (wE E N sc sc e) tNil))) (fun X g => by
          rw [← g.eK]
          exact ps_expr (pe_bm PySem.F.plainAttrs_list PySem.F.slot_list_append PySem.F.type_list_append mt_append (g.nm h1) (pa_cons g.pe pa_nil (star_ne h5)) (nm_base h1) (few_ok h5) h4 (star_ne h5) rfl) (sw_no rfl)) ?_
        have own0 : ∃ ds0, st[i]? = some (.ow ds0) := by
          unfold ownS at e0
          split at e0
          · exact ⟨_, by assumption⟩
          · cases e0
        obtain ⟨ds0, hs0⟩ := own0
        obtain ⟨a0, xs0, v1, v2, _⟩ := I.ow i ds0 hs0
        rw [hv] at v1
        cases v1
        refine ⟨_, hv, .inl ⟨rfl, _, .inl (.inl v2)⟩, ?_⟩
        refine hc.C sc sc e h6 st st1 d e1 σ H Hs I _ fun v H1 Hs1 I1 g1 d1 => ?_
        obtain ⟨a', xs, w1, w2, w3, w4⟩ := I1.ow i ds hs
        rw [hv] at w1
        cases w1
        refine ⟨a, xs, v, rfl, rfl, w2, by rw [dps_len w3, ← line_eq]; exact hl, ?_⟩
        obtain ⟨I3, g3⟩ := si_write (xs := []) I1 hs hv (dps_app w3 (.cons d1 .nil))
        exact k _ _ Hs1 ⟨I3, (g1.trans g3).weak fun z => Bool.noConfusion z, fun _ _ => rfl⟩
      · cases e2
    · cases e2
theorem snd_Sext (i : Nat) (c : C) (hc : Snd E N c) : SndS E N (.ext i c) := by
  refine ⟨fun sc x h st ob ho σ H Hs I Dn k => ?_, noBx (fun _ => rfl) fun _ _ _ => rfl⟩
  cases x <;> first | exact Bool.noConfusion h | skip
  rename_i ex p
  match ex, h with
  | .Call (.Attribute ea m apos) [e] kw cpos, h =>
    simp only [chkS, Bool.and_eq_true, decide_eq_true_eq, List.isEmpty_iff, Bool.not_eq_true'] at h
    obtain ⟨⟨⟨⟨⟨h1, h2⟩, h3⟩, h4⟩, h5⟩, h6⟩ := h
    subst h2
    subst h3
    simp only [evS, Option.bind_eq_some_iff] at ho
    obtain ⟨_, e0, ⟨d, st1⟩, e1, e2⟩ := ho
    cases d with
    | list es =>
      simp only at e2
      split at e2
      · rename_i ds hq hs
        split at e2
        · rename_i hl
          cases e2
          cases hq
          obtain ⟨a, hv⟩ := own_ok I e0
          refine upS (t := tDrop (tBM E.K "list" (fun x vs H Q => ∃ l b xs zs, x = .ref l ∧ vs = [.ref b] ∧ H l = some (.lst xs) ∧ Rd H b (.lst zs) ∧ xs.length + zs.length ≤ sizeLine ∧ Q .non (upd H l (.lst (xs ++ zs)))) (tVar i) (tCons (wE E N sc sc e) tNil))) (fun X g => by
            rw [← g.eK]
            exact ps_expr (pe_bm PySem.F.plainAttrs_list PySem.F.slot_list_extend PySem.F.type_list_extend mt_extendS (g.nm h1) (pa_cons g.pe pa_nil (star_ne h5)) (nm_base h1) (few_ok h5) h4 (star_ne h5) rfl) (sw_no rfl)) ?_
          have own0 : ∃ ds0, st[i]? = some (.ow ds0) := by
            unfold ownS at e0
            split at e0
            · exact ⟨_, by assumption⟩
            · cases e0
          obtain ⟨ds0, hs0⟩ := own0
          obtain ⟨a0, xs0, v1, v2, _⟩ := I.ow i ds0 hs0
          rw [hv] at v1
          cases v1
          refine ⟨_, hv, .inl ⟨rfl, _, .inl (.inl v2)⟩, ?_⟩
          refine hc.C sc sc e h6 st st1 _ e1 σ H Hs I _ fun v H1 Hs1 I1 g1 d1 => ?_
          obtain ⟨a', xs, w1, w2, w3, w4⟩ := I1.ow i ds hs
          rw [hv] at w1
          cases w1
          cases d1 with
          | lst hq hz =>
            refine ⟨a, _, xs, _, rfl, rfl, w2, rd_up I1.sub (dp_rd hq), by rw [dps_len w3, dps_len hz, ← line_eq]; exact hl, ?_⟩
            obtain ⟨I3, g3⟩ := si_write (xs := []) I1 hs hv (dps_app w3 hz)
            exact k _ _ Hs1 ⟨I3, (g1.trans g3).weak fun z => Bool.noConfusion z, fun _ _ => rfl⟩
        · cases e2
      · cases e2
    | _ => cases e2
theorem snd_SrevS (i : Nat) : SndS E N (.revS i) := by
  refine ⟨fun sc x h st ob ho σ H Hs I Dn k => ?_, noBx (fun _ => rfl) fun _ _ _ => rfl⟩
  cases x <;> first | exact Bool.noConfusion h | skip
  rename_i ex p
  match ex, h with
  | .Call (.Attribute ea m apos) [] kw cpos, h =>
    simp only [chkS, Bool.and_eq_true, decide_eq_true_eq, List.isEmpty_iff] at h
    obtain ⟨⟨⟨h1, h2⟩, h3⟩, h4⟩ := h
    subst h2
    subst h3
    simp only [evS] at ho
    split at ho
    · rename_i ds hs
      cases ho
      obtain ⟨a, xs, w1, w2, w3, w4⟩ := I.ow i ds hs
      refine upS (t := tDrop (tBM0 E.K "list" rReverse (tVar i))) (fun X g => by
        rw [← g.eK]
        exact ps_expr (pe_bm0 PySem.F.plainAttrs_list PySem.F.slot_list_reverse PySem.F.type_list_reverse mt_reverse (g.nm h1) (nm_base h1) h4) (sw_no rfl)) ?_
      refine ⟨_, w1, .inl ⟨rfl, _, .inl (.inl w2)⟩, a, xs, rfl, rfl, w2, ?_⟩
      obtain ⟨I3, g3⟩ := si_write (xs := []) I hs w1 (dps_rev w3)
      exact k _ _ Hs ⟨I3, g3, fun _ _ => rfl⟩
    · cases ho
/-! ### every statement -/
theorem sndS_all : ∀ s : S, okS E s → SndS E N s
  | .nop, _ => snd_Snop
  | .seq a b, h => snd_Sseq a b (sndS_all a h.1) (sndS_all b h.2)
  | .asg t c, h => snd_Sasg t c h
  | .par2 i j a b, h => snd_Spar2 i j a b (snd_all a h.1) (snd_all b h.2)
  | .par3 i j l a b c, h => snd_Spar3 i j l a b c (snd_all a h.1) (snd_all b h.2.1) (snd_all c h.2.2)
  | .asgL i c, h => snd_SasgL i c h
  | .aug i o c, h => snd_Saug i o c (snd_all c h)
  | .setI i ix c, h => snd_SsetI i ix c (snd_all ix h.1) (snd_all c h.2)
  | .augI i ix o c, h => snd_SaugI i ix o c (snd_all ix h.1) (snd_all c h.2)
  | .app i c, h => snd_Sapp i c (snd_all c h)
  | .ext i c, h => snd_Sext i c (snd_all c h)
  | .revS i, _ => snd_SrevS i
  | .expr c, h => snd_Sexpr c (snd_all c h)
  | .ret c, h => snd_Sret c (snd_all c h)
  | .retN, _ => snd_SretN
  | .retF c, h => snd_SretF c (snd_all c h)
  | .retV i, _ => snd_SretV i
  | .ife t a b, h => snd_Sife t a b (snd_all t h.1) (sndS_all a h.2.1) (sndS_all b h.2.2)
  | .forr t it b, h => snd_Sforr t it b (snd_all it h.1) (sndS_all b h.2)
  | .whl t b, h => snd_Swhl t b (snd_all t h.1) (sndS_all b h.2)
  | .brk, _ => snd_Sbrk
  | .cnt, _ => snd_Scnt
  | .fail, _ => snd_Sfail
end
end Sm

set_option Elab.async false
set_option linter.all false
set_option maxRecDepth 100000
set_option maxHeartbeats 4000000
namespace Sm
open PySem PySem.Spec PyProof.Rows L2
/-! ### a def's body -/
theorem startS_get_lt {n : Nat} {l : List Sl} {i : Nat} (h : i < l.length) : (startS n l)[i]? = l[i]? := by
  unfold startS
  rw [List.getElem?_append_left h]
theorem startS_get_ge {n : Nat} {l : List Sl} {i : Nat} {x : Sl} (h : l.length ≤ i) (e : (startS n l)[i]? = some x) : x = .emp := by
  unfold startS at e
  rw [List.getElem?_append_right h, List.getElem?_replicate] at e
  split at e
  · cases e; rfl
  · cases e
theorem start_get {N : List Str} {vs : List V} {i : Nat} {v : V} (h : vs[i]? = some v) : (start N vs)[i]? = some (some v) := by
  unfold L2.start
  have hi : i < vs.length := (List.getElem?_eq_some_iff.mp h).1
  rw [List.getElem?_append_left (by simpa using hi), List.getElem?_map, h]
  rfl
theorem start_len {N : List Str} {vs : List V} {l : List Sl} (h : l.length = vs.length) : (startS N.length l).length = (start N vs).length := by
  unfold startS L2.start
  simp [h]
theorem si_start {K : PySem.W.Frag} {N : List Str} {vs : List V} {ds : List D} {H Hs : Hp} (sub : Same Hs H) (h : DpAll [] Hs vs ds) : SI K (startS N.length (ds.map .sh)) (start N vs) H Hs ∧ ∀ a, ¬ Owd (startS N.length (ds.map .sh)) (start N vs) a := by
  have get : ∀ {i : Nat} {x : Sl}, (startS N.length (ds.map .sh))[i]? = some x → x = .emp ∨ ∃ d, ds[i]? = some d ∧ x = .sh d := fun {i x} e => by
    by_cases hi : i < (ds.map Sl.sh).length
    · rw [startS_get_lt hi, List.getElem?_map] at e
      simp only [Option.map_eq_some_iff] at e
      obtain ⟨d, e1, e2⟩ := e
      exact .inr ⟨d, e1, e2.symm⟩
    · exact .inl (startS_get_ge (by omega) e)
  have noow : ∀ {i : Nat} {es : List D}, ¬ (startS N.length (ds.map .sh))[i]? = some (.ow es) := fun {i es} e => by
    rcases get e with w | ⟨d, _, w⟩ <;> cases w
  refine ⟨⟨start_len (by rw [List.length_map, dps_len h]), sub, fun i d e => ?_, fun i es e => absurd e noow, fun i j es fs a hn e => absurd e noow, fun i ns e => ?_⟩, fun a ⟨i, es, e, _⟩ => noow e⟩
  · rcases get e with w | ⟨d', e1, w⟩
    · cases w
    · cases w
      obtain ⟨v, w1, w2⟩ := dps_get h e1
      exact ⟨v, start_get w1, w2⟩
  · rcases get e with w | ⟨d, _, w⟩ <;> cases w
theorem si_startIO {K : PySem.W.Frag} {N : List Str} {us : List V} {ds d0 : List D} {xs : List V} {c : Addr} {H Hs : Hp} (sub : Same Hs H) (hc : H c = some (.lst xs)) (hx : DpAll [] Hs xs d0) (hs : Hs c = none) (h : DpAll [] Hs us ds) :
    SI K (startS N.length (.ow d0 :: ds.map .sh)) (start N (.ref c :: us)) H Hs ∧ ∀ a, Owd (startS N.length (.ow d0 :: ds.map .sh)) (start N (.ref c :: us)) a → a = c := by
  have get : ∀ {i : Nat} {x : Sl}, (startS N.length (.ow d0 :: ds.map .sh))[i]? = some x → x = .emp ∨ (i = 0 ∧ x = .ow d0) ∨ ∃ j d, i = j + 1 ∧ ds[j]? = some d ∧ x = .sh d := fun {i x} e => by
    by_cases hi : i < (Sl.ow d0 :: ds.map Sl.sh).length
    · rw [startS_get_lt hi] at e
      cases i with
      | zero => cases e; exact .inr (.inl ⟨rfl, rfl⟩)
      | succ j =>
        rw [List.getElem?_cons_succ, List.getElem?_map] at e
        simp only [Option.map_eq_some_iff] at e
        obtain ⟨d, e1, e2⟩ := e
        exact .inr (.inr ⟨j, d, rfl, e1, e2.symm⟩)
    · exact .inl (startS_get_ge (by omega) e)
  have ow0 : ∀ {i : Nat} {es : List D}, (startS N.length (.ow d0 :: ds.map .sh))[i]? = some (.ow es) → i = 0 ∧ es = d0 := fun {i es} e => by
    rcases get e with w | ⟨w1, w2⟩ | ⟨j, d, _, _, w⟩
    · cases w
    · cases w2; exact ⟨w1, rfl⟩
    · cases w
  have z0 : (start N (.ref c :: us))[0]? = some (some (.ref c)) := start_get rfl
  refine ⟨⟨start_len (by simp [dps_len h]), sub, fun i d e => ?_, fun i es e => ?_, fun i j es fs a hn e1 e2 => ?_, fun i ns e => ?_⟩, fun a ⟨i, es, e, e2⟩ => ?_⟩
  · rcases get e with w | ⟨w1, w2⟩ | ⟨j, d', rfl, e1, w⟩
    · cases w
    · cases w2
    · cases w
      obtain ⟨v, w1, w2⟩ := dps_get h e1
      exact ⟨v, start_get (by simpa using w1), w2⟩
  · obtain ⟨rfl, rfl⟩ := ow0 e
    exact ⟨c, xs, z0, hc, hx, hs⟩
  · obtain ⟨rfl, _⟩ := ow0 e1
    obtain ⟨rfl, _⟩ := ow0 e2
    exact absurd rfl hn
  · rcases get e with w | ⟨_, w⟩ | ⟨j, d, _, _, w⟩ <;> cases w
  · obtain ⟨rfl, _⟩ := ow0 e
    rw [z0] at e2
    cases e2
    rfl
theorem si_startRO {K : PySem.W.Frag} {N : List Str} {us : List V} {ds : List D} {ns : List Int} {c : Addr} {H Hs : Hp} (sub : Same Hs H) (hc : RO K H c ns) (h : DpAll [] Hs us ds) :
    SI K (startS N.length (.ro ns :: ds.map .sh)) (start N (.ref c :: us)) H Hs ∧ ∀ a, ¬ Owd (startS N.length (.ro ns :: ds.map .sh)) (start N (.ref c :: us)) a := by
  have get : ∀ {i : Nat} {x : Sl}, (startS N.length (.ro ns :: ds.map .sh))[i]? = some x → x = .emp ∨ (i = 0 ∧ x = .ro ns) ∨ ∃ j d, i = j + 1 ∧ ds[j]? = some d ∧ x = .sh d := fun {i x} e => by
    by_cases hi : i < (Sl.ro ns :: ds.map Sl.sh).length
    · rw [startS_get_lt hi] at e
      cases i with
      | zero => cases e; exact .inr (.inl ⟨rfl, rfl⟩)
      | succ j =>
        rw [List.getElem?_cons_succ, List.getElem?_map] at e
        simp only [Option.map_eq_some_iff] at e
        obtain ⟨d, e1, e2⟩ := e
        exact .inr (.inr ⟨j, d, rfl, e1, e2.symm⟩)
    · exact .inl (startS_get_ge (by omega) e)
  have noow : ∀ {i : Nat} {es : List D}, ¬ (startS N.length (.ro ns :: ds.map .sh))[i]? = some (.ow es) := fun {i es} e => by
    rcases get e with w | ⟨w1, w2⟩ | ⟨j, d, _, _, w⟩
    · cases w
    · cases w2
    · cases w
  have z0 : (start N (.ref c :: us))[0]? = some (some (.ref c)) := start_get rfl
  refine ⟨⟨start_len (by simp [dps_len h]), sub, fun i d e => ?_, fun i es e => absurd e noow, fun i j es fs a hn e => absurd e noow, fun i ms e => ?_⟩, fun a ⟨i, es, e, _⟩ => noow e⟩
  · rcases get e with w | ⟨w1, w2⟩ | ⟨j, d', rfl, e1, w⟩
    · cases w
    · cases w2
    · cases w
      obtain ⟨v, w1, w2⟩ := dps_get h e1
      exact ⟨v, start_get (by simpa using w1), w2⟩
  · rcases get e with w | ⟨rfl, w2⟩ | ⟨j, d', _, _, w⟩
    · cases w
    · cases w2; exact ⟨c, z0, hc⟩
    · cases w
section
variable {P : Program} {w : World} {K : PySem.W.Frag} {mg : Str → Option Value} {base : Heap} {x qual : Str} {stm : Stmt} {f : Addr} {fd : FuncData} {N ps : List Str} {k : Nat} {b : S}
theorem gd_def {hb : ∀ x ∈ bltNames, mg x = none} (S : FnScope N ps (defScope stm)) {cdv : Value} {A : Around} {outer : List Env} {s : Shared} {H : Hp} {E : XK} (hr : Room k (A.deeper (envOfC qual (defScope stm) s.heap.objs.size f cdv))) :
    Gd ⟨P, w, K, mg, base, k, hb⟩ N (defScope stm) (defScope stm) (cxOf CX0 P w K mg base N qual (defScope stm) f cdv A outer s H E).nox where
  eP := rfl
  ew := rfl
  eK := rfl
  emg := rfl
  ebase := rfl
  eN := rfl
  nd := S.nd
  esc := rfl
  calm := rfl
  room := hr
  exe := rfl
  stor := fun x h => by
    show Loc (defScope stm) x ∧ (true = true ∨ (defScope stm).names.lookup x = some .local)
    unfold locB at h
    split at h
    · exact ⟨.inl (by assumption), .inl rfl⟩
    · exact ⟨.inr (by assumption), .inl rfl⟩
    · cases h
theorem fn_ok (hb : ∀ x ∈ bltNames, mg x = none) (F : Fun K x qual stm f fd) (S : FnScope N ps (defScope stm)) (hc : chkB N b (defScope stm) (defBody stm) = true) (ok : okS ⟨P, w, K, mg, base, k, hb⟩ b) :
    FnOk P w K mg base CX0 (k + 1) f fd ps (spP ps.length (fnD N.length ps.length b)) := by
  refine F.ok S (fun vs H Q E h => ?_) (fun cdv A outer s H vs Q E hr h => ?_)
  · obtain ⟨Hs, ds, r, h1, _⟩ := h
    exact h1
  · obtain ⟨Hs, ds, r, h1, h2, h3, h4, h5⟩ := h
    refine ⟨wSs ⟨P, w, K, mg, base, k, hb⟩ N (defScope stm) (defScope stm) (defBody stm), (gd_def S hr).pss, ?_⟩
    obtain ⟨I, no⟩ := si_start (K := K) (N := N) h2 h3
    unfold fnD at h4
    rw [if_pos (by rw [← dps_len h3]; exact h1)] at h4
    cases ho : evS b (startS N.length (ds.map .sh)) with
    | none => rw [ho] at h4; cases h4
    | some o =>
      rw [ho] at h4
      refine (sndS_all (E := ⟨P, w, K, mg, base, k, hb⟩) (N := N) b ok).B (defScope stm) (defBody stm) hc _ o ho (start N vs) H Hs I _ ?_
      have fin : ∀ {st' : DS} {σ' : L2.St} {H' Hs' : Hp}, StO K (asgd b) (startS N.length (ds.map .sh)) (start N vs) H Hs st' σ' H' Hs' → ∀ v, Dp [] Hs' v r → Q v H' := fun {st' σ' H' Hs'} t v dv =>
        h5 v H' Hs' (fun a o z => t.go.fr a o (no a) z) t.go.old t.si.sub (fun a o z => by
          rcases t.go.new a o z with q | q | q
          · exact .inl q
          · exact .inr q
          · exact absurd q (no a)) dv
      cases o with
      | nx st' => cases h4; exact fun σ' H' Hs' t => fin t _ .non
      | ret d st' => cases h4; exact fun v σ' H' Hs' t dv => fin t v dv
      | bk st' => cases h4
      | ct st' => cases h4
      | retf ds' st' =>
        cases h4
        exact fun a xs σ' H' Hs' t n n2 n3 n4 => by
          have ha : H a = none := n.elim id fun z => absurd z (no a)
          have e : Same Hs' (upd Hs' a (.lst xs)) := fun b u z => by rw [upd_ne (ne_of_none z n3)]; exact z
          refine h5 (.ref a) H' (upd Hs' a (.lst xs)) (fun b o z => t.go.fr b o (no b) z) (t.go.old.trans e) (fun b o z => ?_) (fun b o z => ?_) (.lst (.inl (.inl upd_same)) (dps_mono e _ _ n4))
          · by_cases hb : b = a
            · subst hb; rw [upd_same] at z; cases z; exact n2
            · rw [upd_ne hb] at z; exact t.si.sub b o z
          · by_cases hb : b = a
            · subst hb; exact .inr ha
            · rw [upd_ne hb] at z
              rcases t.go.new b o z with q | q | q
              · exact .inl q
              · exact .inr q
              · exact absurd q (no b)
theorem fnR_ok (hb : ∀ x ∈ bltNames, mg x = none) (F : Fun K x qual stm f fd) (S : FnScope N ps (defScope stm)) (hc : chkB N b (defScope stm) (defBody stm) = true) (ok : okS ⟨P, w, K, mg, base, k, hb⟩ b) :
    FnOk P w K mg base CX0 (k + 1) f fd ps (spRO K ps.length (fnRO N.length ps.length b)) := by
  refine F.ok S (fun vs H Q E h => ?_) (fun cdv A outer s H vs Q E hr h => ?_)
  · obtain ⟨Hs, c, ns, us, ds, r, _, h1, _⟩ := h
    exact h1
  · obtain ⟨Hs, c, ns, us, ds, r, rfl, h1, h2, h6, h3, h4, h5⟩ := h
    refine ⟨wSs ⟨P, w, K, mg, base, k, hb⟩ N (defScope stm) (defScope stm) (defBody stm), (gd_def S hr).pss, ?_⟩
    obtain ⟨I, no⟩ := si_startRO (K := K) (N := N) h2 h6 h3
    unfold fnRO at h4
    rw [if_pos (by rw [← dps_len h3]; simpa using h1)] at h4
    cases ho : evS b (startS N.length (.ro ns :: ds.map .sh)) with
    | none => rw [ho] at h4; cases h4
    | some o =>
      rw [ho] at h4
      refine (sndS_all (E := ⟨P, w, K, mg, base, k, hb⟩) (N := N) b ok).B (defScope stm) (defBody stm) hc _ o ho (start N (.ref c :: us)) H Hs I _ ?_
      have fin : ∀ {st' : DS} {σ' : L2.St} {H' Hs' : Hp}, StO K (asgd b) (startS N.length (.ro ns :: ds.map .sh)) (start N (.ref c :: us)) H Hs st' σ' H' Hs' → ∀ v, Dp [] Hs' v r → Q v H' := fun {st' σ' H' Hs'} t v dv =>
        h5 v H' Hs' (fun a o z => t.go.fr a o (no a) z) t.go.old t.si.sub (fun a o z => by
          rcases t.go.new a o z with q | q | q
          · exact .inl q
          · exact .inr q
          · exact absurd q (no a)) dv
      cases o with
      | nx st' => cases h4; exact fun σ' H' Hs' t => fin t _ .non
      | ret d st' => cases h4; exact fun v σ' H' Hs' t dv => fin t v dv
      | bk st' => cases h4
      | ct st' => cases h4
      | retf ds' st' =>
        cases h4
        exact fun a xs σ' H' Hs' t n n2 n3 n4 => by
          have ha : H a = none := n.elim id fun z => absurd z (no a)
          have e : Same Hs' (upd Hs' a (.lst xs)) := fun b u z => by rw [upd_ne (ne_of_none z n3)]; exact z
          refine h5 (.ref a) H' (upd Hs' a (.lst xs)) (fun b o z => t.go.fr b o (no b) z) (t.go.old.trans e) (fun b o z => ?_) (fun b o z => ?_) (.lst (.inl (.inl upd_same)) (dps_mono e _ _ n4))
          · by_cases hb : b = a
            · subst hb; rw [upd_same] at z; cases z; exact n2
            · rw [upd_ne hb] at z; exact t.si.sub b o z
          · by_cases hb : b = a
            · subst hb; exact .inr ha
            · rw [upd_ne hb] at z
              rcases t.go.new b o z with q | q | q
              · exact .inl q
              · exact .inr q
              · exact absurd q (no b)
theorem fnI_ok (hb : ∀ x ∈ bltNames, mg x = none) (F : Fun K x qual stm f fd) (S : FnScope N ps (defScope stm)) (hc : chkB N b (defScope stm) (defBody stm) = true) (h0 : (asgd b).contains 0 = false) (ok : okS ⟨P, w, K, mg, base, k, hb⟩ b) :
    FnOk P w K mg base CX0 (k + 1) f fd ps (spIO ps.length (fnIO N.length ps.length b)) := by
  refine F.ok S (fun vs H Q E h => ?_) (fun cdv A outer s H vs Q E hr h => ?_)
  · obtain ⟨Hs, c, xs, d0, us, ds, r, d1, _, h1, _⟩ := h
    exact h1
  · obtain ⟨Hs, c, xs, d0, us, ds, r, d1, rfl, h1, h2, h6, h7, h8, h3, h4, h5⟩ := h
    refine ⟨wSs ⟨P, w, K, mg, base, k, hb⟩ N (defScope stm) (defScope stm) (defBody stm), (gd_def S hr).pss, ?_⟩
    obtain ⟨I, on⟩ := si_startIO (K := K) (N := N) h2 h6 h8 h7 h3
    unfold fnIO at h4
    rw [if_pos (by rw [← dps_len h3]; simpa using h1)] at h4
    have z0 : (start N (.ref c :: us))[0]? = some (some (.ref c)) := start_get rfl
    have n0 : 0 ∉ asgd b := fun z => by rw [List.contains_iff_mem.mpr z] at h0; cases h0
    cases ho : evS b (startS N.length (.ow d0 :: ds.map .sh)) with
    | none => rw [ho] at h4; cases h4
    | some o =>
      rw [ho] at h4
      refine (sndS_all (E := ⟨P, w, K, mg, base, k, hb⟩) (N := N) b ok).B (defScope stm) (defBody stm) hc _ o ho (start N (.ref c :: us)) H Hs I _ ?_
      have fin : ∀ {st' : DS} {σ' : L2.St} {H' Hs' : Hp}, st'[0]? = some (.ow d1) → StO K (asgd b) (startS N.length (.ow d0 :: ds.map .sh)) (start N (.ref c :: us)) H Hs st' σ' H' Hs' → ∀ v, Dp [] Hs' v r → Q v H' := fun {st' σ' H' Hs'} e0 t v dv => by
        obtain ⟨a, ys, q1, q2, q3, q4⟩ := t.si.ow 0 d1 e0
        rw [t.out 0 n0, z0] at q1
        cases q1
        exact h5 v H' Hs' ys (fun a o hn z => t.go.fr a o (fun w => hn (on a w)) z) t.go.old t.si.sub (fun a o z => by
          rcases t.go.new a o z with q | q | q
          · exact .inl q
          · exact .inr q
          · have e := on a q
            subst e
            rw [q4] at z; cases z) q2 q3 dv
      cases o with
      | nx st' =>
        simp only at h4
        split at h4
        · rename_i d1' hd1
          cases h4
          exact fun σ' H' Hs' t => fin hd1 t _ .non
        · cases h4
      | ret d st' =>
        simp only at h4
        split at h4
        · rename_i d1' hd1
          cases h4
          exact fun v σ' H' Hs' t dv => fin hd1 t v dv
        · cases h4
      | bk st' => cases h4
      | ct st' => cases h4
      | retf ds' st' => cases h4
theorem fnN_ok (hb : ∀ x ∈ bltNames, mg x = none) (F : Fun K x qual stm f fd) (S : FnScope N ps (defScope stm)) (hc : chkB N b (defScope stm) (defBody stm) = true) (ok : okS ⟨P, w, K, mg, base, k, hb⟩ b) :
    FnOk P w K mg base CX0 (k + 1) f fd ps (spN ps.length (fnN N.length ps.length b)) := by
  refine F.ok S (fun vs H Q E h => ?_) (fun cdv A outer s H vs Q E hr h => ?_)
  · obtain ⟨Hs, ds, r, h1, _⟩ := h
    exact h1
  · obtain ⟨Hs, ds, r, h1, h2, h3, h4, h5⟩ := h
    refine ⟨wSs ⟨P, w, K, mg, base, k, hb⟩ N (defScope stm) (defScope stm) (defBody stm), (gd_def S hr).pss, ?_⟩
    obtain ⟨I, no⟩ := si_start (K := K) (N := N) h2 h3
    unfold fnN at h4
    rw [if_pos (by rw [← dps_len h3]; exact h1)] at h4
    cases ho : evS b (startS N.length (ds.map .sh)) with
    | none => rw [ho] at h4; cases h4
    | some o =>
      rw [ho] at h4
      refine (sndS_all (E := ⟨P, w, K, mg, base, k, hb⟩) (N := N) b ok).B (defScope stm) (defBody stm) hc _ o ho (start N vs) H Hs I _ ?_
      cases o with
      | nx st' => cases h4
      | ret d st' => cases h4
      | bk st' => cases h4
      | ct st' => cases h4
      | retf ds' st' =>
        cases h4
        exact fun a xs σ' H' Hs' t n n2 n3 n4 => h5 a xs H' Hs' (fun b o z => t.go.fr b o (no b) z) t.go.old t.si.sub (fun b o z => by
          rcases t.go.new b o z with q | q | q
          · exact .inl q
          · exact .inr q
          · exact absurd q (no b)) (n.elim id fun z => absurd z (no a)) n2 n3 n4
theorem fnRN_ok (hb : ∀ x ∈ bltNames, mg x = none) (F : Fun K x qual stm f fd) (S : FnScope N ps (defScope stm)) (hc : chkB N b (defScope stm) (defBody stm) = true) (ok : okS ⟨P, w, K, mg, base, k, hb⟩ b) :
    FnOk P w K mg base CX0 (k + 1) f fd ps (spRN K ps.length (fnRN N.length ps.length b)) := by
  refine F.ok S (fun vs H Q E h => ?_) (fun cdv A outer s H vs Q E hr h => ?_)
  · obtain ⟨Hs, c, ns, us, ds, r, _, h1, _⟩ := h
    exact h1
  · obtain ⟨Hs, c, ns, us, ds, r, rfl, h1, h2, h6, h3, h4, h5⟩ := h
    refine ⟨wSs ⟨P, w, K, mg, base, k, hb⟩ N (defScope stm) (defScope stm) (defBody stm), (gd_def S hr).pss, ?_⟩
    obtain ⟨I, no⟩ := si_startRO (K := K) (N := N) h2 h6 h3
    unfold fnRN at h4
    rw [if_pos (by rw [← dps_len h3]; simpa using h1)] at h4
    cases ho : evS b (startS N.length (.ro ns :: ds.map .sh)) with
    | none => rw [ho] at h4; cases h4
    | some o =>
      rw [ho] at h4
      refine (sndS_all (E := ⟨P, w, K, mg, base, k, hb⟩) (N := N) b ok).B (defScope stm) (defBody stm) hc _ o ho (start N (.ref c :: us)) H Hs I _ ?_
      cases o with
      | nx st' => cases h4
      | ret d st' => cases h4
      | bk st' => cases h4
      | ct st' => cases h4
      | retf ds' st' =>
        cases h4
        exact fun a xs σ' H' Hs' t n n2 n3 n4 => h5 a xs H' Hs' (fun b o z => t.go.fr b o (no b) z) t.go.old t.si.sub (fun b o z => by
          rcases t.go.new b o z with q | q | q
          · exact .inl q
          · exact .inr q
          · exact absurd q (no b)) (n.elim id fun z => absurd z (no a)) n2 n3 n4
/-! ### calls of such defs -/
theorem fnD_len {n m : Nat} {b : S} {ds : List D} {r : D} (h : fnD n m b ds = some r) : ds.length = m := by
  unfold fnD at h
  split at h
  · assumption
  · cases h
theorem fnRO_len {n m : Nat} {b : S} {ns : List Int} {ds : List D} {r : D} (h : fnRO n m b ns ds = some r) : ds.length + 1 = m := by
  unfold fnRO at h
  split at h
  · assumption
  · cases h
theorem fnIO_len {n m : Nat} {b : S} {d0 ds : List D} {r : D × List D} (h : fnIO n m b d0 ds = some r) : ds.length + 1 = m := by
  unfold fnIO at h
  split at h
  · assumption
  · cases h
theorem okF_of {hb : ∀ x ∈ bltNames, mg x = none} {j n : Nat} (hj : j ≤ k) (F : Fun K x qual stm f fd) (hm : mg x = some (.ref f)) (hB : Binds K fd ps []) (G : FnOk P w K mg base CX0 j f fd ps (spP ps.length (fnD n ps.length b))) :
    okF ⟨P, w, K, mg, base, k, hb⟩ x (fnD n ps.length b) :=
  ⟨ps.length, [], [], fnD n ps.length b, ⟨f, fd, ps, [], hm, F.kp, rfl, G.mono hj, hB, .nil⟩, fun _ => .nil, fun ds r h => by rw [List.append_nil]; exact ⟨h, by simpa using fnD_len h⟩⟩
theorem okR_of {hb : ∀ x ∈ bltNames, mg x = none} {j n : Nat} (hj : j ≤ k) (F : Fun K x qual stm f fd) (hm : mg x = some (.ref f)) (hB : Binds K fd ps []) (G : FnOk P w K mg base CX0 j f fd ps (spRO K ps.length (fnRO n ps.length b))) :
    okR ⟨P, w, K, mg, base, k, hb⟩ x (fnRO n ps.length b) :=
  ⟨ps.length, ⟨f, fd, ps, [], hm, F.kp, rfl, G.mono hj, hB, .nil⟩, fun ns ds r h => fnRO_len h⟩
theorem okG_of {hb : ∀ x ∈ bltNames, mg x = none} {j n : Nat} (hj : j ≤ k) (F : Fun K x qual stm f fd) (hm : mg x = some (.ref f)) (hB : Binds K fd ps []) (G : FnOk P w K mg base CX0 j f fd ps (spIO ps.length (fnIO n ps.length b))) :
    okG ⟨P, w, K, mg, base, k, hb⟩ x (fnIO n ps.length b) :=
  ⟨ps.length, ⟨f, fd, ps, [], hm, F.kp, rfl, G.mono hj, hB, .nil⟩, fun d0 ds r h => fnIO_len h⟩
theorem fnN_len {n m : Nat} {b : S} {ds : List D} {r : List D} (h : fnN n m b ds = some r) : ds.length = m := by
  unfold fnN at h
  split at h
  · assumption
  · cases h
theorem fnRN_len {n m : Nat} {b : S} {ns : List Int} {ds : List D} {r : List D} (h : fnRN n m b ns ds = some r) : ds.length + 1 = m := by
  unfold fnRN at h
  split at h
  · assumption
  · cases h
theorem okN_of {hb : ∀ x ∈ bltNames, mg x = none} {j n : Nat} (hj : j ≤ k) (F : Fun K x qual stm f fd) (hm : mg x = some (.ref f)) (hB : Binds K fd ps []) (G : FnOk P w K mg base CX0 j f fd ps (spN ps.length (fnN n ps.length b))) :
    okN ⟨P, w, K, mg, base, k, hb⟩ x (fnN n ps.length b) :=
  ⟨ps.length, ⟨f, fd, ps, [], hm, F.kp, rfl, G.mono hj, hB, .nil⟩, fun ds r h => fnN_len h⟩
theorem okRN_of {hb : ∀ x ∈ bltNames, mg x = none} {j n : Nat} (hj : j ≤ k) (F : Fun K x qual stm f fd) (hm : mg x = some (.ref f)) (hB : Binds K fd ps []) (G : FnOk P w K mg base CX0 j f fd ps (spRN K ps.length (fnRN n ps.length b))) :
    okRN ⟨P, w, K, mg, base, k, hb⟩ x (fnRN n ps.length b) :=
  ⟨ps.length, ⟨f, fd, ps, [], hm, F.kp, rfl, G.mono hj, hB, .nil⟩, fun ns ds r h => fnRN_len h⟩
end
/-- the law's own promise, from its evaluation -/
theorem law_sp {K : PySem.W.Frag} {n : Nat} {b : S} {H : Hp} {a : Addr} {ns : List Int} (hO : Only H) (hS : SqL K H a (ns.map V.int)) (h : fnRO n 1 b ns [] = some (.bool true)) : spRO K 1 (fnRO n 1 b) [.ref a] H (fun v _ => v = .bl true) fun _ _ _ => False := by
  refine ⟨fun _ => none, a, ns, [], [], .bool true, rfl, rfl, fun _ _ z => (by cases z), ?_, .nil, h, fun v H' Hs' _ _ _ _ dv => (by cases dv; rfl)⟩
  rcases hS with (z | ⟨o, z⟩) | z
  · rcases hO a with q | ⟨o, xs, q⟩
    · rw [z] at q; cases q
    · rw [z] at q; cases q
  · exact .inl ⟨o, z⟩
  · exact .inr z
end Sm

set_option Elab.async false
set_option linter.all false
set_option maxRecDepth 100000
set_option maxHeartbeats 4000000
namespace Sm
open PySem PySem.Spec PyProof.Rows L2
/-! ### plain facts of the evaluation -/
def il (l : List Int) : D := .list (l.map .int)
theorem intsD_map : ∀ l : List Int, intsD (l.map .int) = some l
  | [] => rfl
  | a :: r => by simp [intsD, intsD_map r]
theorem boolsD_map : ∀ l : List Bool, boolsD (l.map .bool) = some l
  | [] => rfl
  | a :: r => by simp [boolsD, boolsD_map r]
theorem evS_forr (t : T) (it : C) (b : S) (st : DS) : evS (.forr t it b) st = (evI it st).bind fun r => floop (fun d st1 => (bindT t d st1).bind fun st2 => evS b st2) r.1 r.2 := rfl
theorem evC_lc (elt : C) (own : List Nat) (t : T) (it cond : C) (st : DS) : evC (.lc elt own t it cond) st = (evI it st).bind fun r =>
      (lcL (fun d st2 => (bindT t d st2).bind fun st3 => (evC cond st3).bind fun q => match q.1 with
        | .bool true => (evC elt q.2).map fun u => (some u.1, wipeS u.2 own)
        | .bool false => some (none, wipeS q.2 own)
        | _ => none) r.1 [] (wipeS r.2 own)).map fun q => (.list q.1, backS q.2 r.2 own) := by
  rw [evC] <;> rfl
theorem lcL_map {α : Type} (f : D → DS → Option (Option D × DS)) (g h : α → D) (st : DS) : ∀ (l : List α) (acc : List D), (∀ x ∈ l, f (g x) st = some (some (h x), st)) → acc.length + l.length ≤ line → lcL f (l.map g) acc st = some (acc ++ l.map h, st)
  | [], acc, _, _ => by simp [lcL]
  | x :: r, acc, hf, hl => by
    have h1 := hf x (by simp)
    simp only [List.length_cons] at hl
    rw [List.map_cons, lcL, h1]
    simp only
    rw [if_pos (by omega), lcL_map f g h st r (acc ++ [h x]) (fun y hy => hf y (by simp [hy])) (by rw [List.length_append, List.length_singleton]; omega)]
    simp
theorem lcL_filter {α : Type} (f : D → DS → Option (Option D × DS)) (g h : α → D) (p : α → Bool) (st : DS) : ∀ (l : List α) (acc : List D), (∀ x ∈ l, f (g x) st = some (if p x then some (h x) else none, st)) → acc.length + l.length ≤ line → lcL f (l.map g) acc st = some (acc ++ (l.filter p).map h, st)
  | [], acc, _, _ => by simp [lcL]
  | x :: r, acc, hf, hl => by
    have h1 := hf x (by simp)
    simp only [List.length_cons] at hl
    rw [List.map_cons, lcL, h1]
    cases hp : p x with
    | true =>
      simp only [if_true]
      rw [if_pos (by omega), lcL_filter f g h p st r (acc ++ [h x]) (fun y hy => hf y (by simp [hy])) (by rw [List.length_append, List.length_singleton]; omega)]
      simp [hp]
    | false =>
      simp only [Bool.false_eq_true, if_false]
      rw [lcL_filter f g h p st r acc (fun y hy => hf y (by simp [hy])) (by omega)]
      simp [hp]
/-- a comprehension, its iterator's things g x, told h x -/
theorem ev_lc {α : Type} {elt : C} {own : List Nat} {t : T} {it cond : C} {st st1 : DS} (l : List α) (g h : α → D) (hi : evI it st = some (l.map g, st1)) (hl : l.length ≤ line)
    (hf : ∀ x ∈ l, ((bindT t (g x) (wipeS st1 own)).bind fun st3 => (evC cond st3).bind fun q => match q.1 with
        | .bool true => (evC elt q.2).map fun u => (some u.1, wipeS u.2 own)
        | .bool false => some (none, wipeS q.2 own)
        | _ => none) = some (some (h x), wipeS st1 own)) : evC (.lc elt own t it cond) st = some (.list (l.map h), backS (wipeS st1 own) st1 own) := by
  rw [evC_lc, hi]
  simp only [Option.bind_some]
  rw [lcL_map _ g h _ l [] hf (by simpa using hl)]
  rfl
theorem ev_lcf {α : Type} {elt : C} {own : List Nat} {t : T} {it cond : C} {st st1 : DS} (l : List α) (g h : α → D) (p : α → Bool) (hi : evI it st = some (l.map g, st1)) (hl : l.length ≤ line)
    (hf : ∀ x ∈ l, ((bindT t (g x) (wipeS st1 own)).bind fun st3 => (evC cond st3).bind fun q => match q.1 with
        | .bool true => (evC elt q.2).map fun u => (some u.1, wipeS u.2 own)
        | .bool false => some (none, wipeS q.2 own)
        | _ => none) = some (if p x then some (h x) else none, wipeS st1 own)) : evC (.lc elt own t it cond) st = some (.list ((l.filter p).map h), backS (wipeS st1 own) st1 own) := by
  rw [evC_lc, hi]
  simp only [Option.bind_some]
  rw [lcL_filter _ g h p _ l [] hf (by simpa using hl)]
  rfl
/-- a loop by an invariant: told what stands behind i things -/
theorem floop_inv (f : D → DS → Option Out) (I : List D → DS → Prop) : ∀ (l : List D) (st : DS), I l st → (∀ d r s, I (d :: r) s → ∃ s', (f d s = some (.nx s') ∨ f d s = some (.ct s')) ∧ I r s') → ∃ s', floop f l st = some (.nx s') ∧ I [] s'
  | [], st, h0, _ => ⟨st, rfl, h0⟩
  | d :: r, st, h0, hs => by
    obtain ⟨s1, e, h1⟩ := hs d r st h0
    obtain ⟨s2, e2, h2⟩ := floop_inv f I r s1 h1 hs
    refine ⟨s2, ?_, h2⟩
    rcases e with e | e
    · rw [floop, e]; exact e2
    · rw [floop, e]; exact e2
theorem rng_map (lo : Int) (n : Nat) : rngD lo 1 n = (List.range n).map fun (i : Nat) => .int (lo + (i : Int)) := by
  unfold rngD
  simp
theorem atI_n {α : Type} (l : List α) (i : Nat) : atI l (i : Int) = l[i]? := by
  unfold atI ixN
  rw [if_pos (by omega)]
  by_cases h : (i : Int) < l.length
  · rw [if_pos h]; simp
  · rw [if_neg h]
    simp only [Option.bind_none]
    rw [List.getElem?_eq_none (by omega)]
theorem atI_zero {α : Type} (a : α) (l : List α) : atI (a :: l) 0 = some a := by
  have := atI_n (a :: l) 0
  simpa using this
theorem atI_one {α : Type} (a b : α) (l : List α) : atI (a :: b :: l) 1 = some b := by
  have := atI_n (a :: b :: l) 1
  simpa using this
theorem atI_two {α : Type} (a b c : α) (l : List α) : atI (a :: b :: c :: l) 2 = some c := by
  have := atI_n (a :: b :: c :: l) 2
  simpa using this
theorem atI_end {α : Type} (l : List α) (a : α) : atI (l ++ [a]) (-1) = some a := by
  unfold atI ixN
  rw [if_neg (by omega), if_pos (by rw [List.length_append, List.length_singleton]; omega)]
  simp only [Option.bind_some]
  rw [List.length_append, List.length_singleton]
  rw [show ((-1 : Int) + ((l.length + 1 : Nat) : Int)).toNat = l.length by omega]
  simp
theorem ixN_n (n i : Nat) (h : i < n) : ixN n (i : Int) = some i := by
  unfold ixN
  rw [if_pos (by omega), if_pos (by omega)]
  simp
theorem bits_lt {i : Int} {k : Nat} (h : -(2 ^ k) < i) (h2 : i < 2 ^ k) : i.natAbs.log2 ≤ k := by
  have : i.natAbs < 2 ^ k := by
    have e : ((2 ^ k : Nat) : Int) = 2 ^ k := by simp
    omega
  by_cases h0 : i.natAbs = 0
  · rw [h0]; simp
  · exact Nat.le_of_lt ((Nat.log2_lt h0).mpr this)
theorem bitsOk_lt {i j : Int} {k l : Nat} (h : -(2 ^ k) < i) (h2 : i < 2 ^ k) (h3 : -(2 ^ l) < j) (h4 : j < 2 ^ l) (hk : k + l < 1000000) : bitsOk i j = true := by
  unfold bitsOk
  have := bits_lt h h2
  have := bits_lt h3 h4
  simp only [decide_eq_true_eq]
  omega
theorem intBits_lt {i : Int} {k : Nat} (h : 0 ≤ i) (h2 : i < 2 ^ k) : Builtin.Int.intBits i ≤ k := by
  unfold Builtin.Int.intBits
  have : i.natAbs < 2 ^ k := by
    have e : ((2 ^ k : Nat) : Int) = 2 ^ k := by simp
    omega
  by_cases h0 : i = 0
  · rw [h0]; simp
  · rw [if_neg (by simpa using h0)]
    exact (Nat.log2_lt (by omega)).mpr this
end Sm

set_option Elab.async false
set_option linter.all false
set_option maxRecDepth 100000
set_option maxHeartbeats 4000000
namespace Sm
open PySem PySem.Spec PyProof.Rows L2
/-! ### the text -/
def topS (i : Nat) : Stmt := PySem.Challenge.pw_spillmirror_k32_whole_tanks_within_tanks.main.body.getD i (.Pass ⟨0, 0, 0, 0⟩)
def N_is_whole : List Str := ["thing"]
def B_is_whole : S := (.seq (.ret (.and (.isi .isInt (.var 0)) (.not (.isi .isBool (.var 0))))) .nop)
def F_is_whole := fnD 1 1 B_is_whole
abbrev st_is_whole : Stmt := topS 7
theorem sc_is_whole : FnScope N_is_whole ["thing"] (defScope st_is_whole) := ⟨rfl, rfl, rfl, by decide +kernel, rfl, by decide +kernel, by decide +kernel⟩
theorem ck_is_whole : chkB N_is_whole B_is_whole (defScope st_is_whole) (defBody st_is_whole) = true := by decide +kernel
def N_is_amount : List Str := ["thing"]
def B_is_amount : S := (.seq (.ret (.and (.call "is_whole" F_is_whole (.acons (.var 0) .anil)) (.cmp .ge (.var 0) (.lit (.int 0))))) .nop)
def F_is_amount := fnD 1 1 B_is_amount
abbrev st_is_amount : Stmt := topS 8
theorem sc_is_amount : FnScope N_is_amount ["thing"] (defScope st_is_amount) := ⟨rfl, rfl, rfl, by decide +kernel, rfl, by decide +kernel, by decide +kernel⟩
theorem ck_is_amount : chkB N_is_amount B_is_amount (defScope st_is_amount) (defBody st_is_amount) = true := by decide +kernel
def N_is_days : List Str := ["thing", "day"]
def L1_is_days : C := .lc (.call "is_whole" F_is_whole (.acons (.var 1) .anil)) [1] (.nm 1) (.seq (.var 0)) .nop
def B_is_days : S := (.seq (.ret (.and (.isi .isList (.var 0)) (.blt .all (.acons L1_is_days .anil)))) .nop)
def F_is_days := fnD 2 1 B_is_days
abbrev st_is_days : Stmt := topS 9
theorem sc_is_days : FnScope N_is_days ["thing"] (defScope st_is_days) := ⟨rfl, rfl, rfl, by decide +kernel, rfl, by decide +kernel, by decide +kernel⟩
theorem ck_is_days : chkB N_is_days B_is_days (defScope st_is_days) (defBody st_is_days) = true := by decide +kernel
def N_need_days : List Str := ["days"]
def B_need_days : S := (.seq (.ife (.not (.call "is_days" F_is_days (.acons (.var 0) .anil))) (.seq .fail .nop) .nop) .nop)
def F_need_days := fnD 1 1 B_need_days
abbrev st_need_days : Stmt := topS 10
theorem sc_need_days : FnScope N_need_days ["days"] (defScope st_need_days) := ⟨rfl, rfl, rfl, by decide +kernel, rfl, by decide +kernel, by decide +kernel⟩
theorem ck_need_days : chkB N_need_days B_need_days (defScope st_need_days) (defBody st_need_days) = true := by decide +kernel
def N_need_cap : List Str := ["cap"]
def B_need_cap : S := (.seq (.ife (.not (.call "is_amount" F_is_amount (.acons (.var 0) .anil))) (.seq .fail .nop) .nop) .nop)
def F_need_cap := fnD 1 1 B_need_cap
abbrev st_need_cap : Stmt := topS 11
theorem sc_need_cap : FnScope N_need_cap ["cap"] (defScope st_need_cap) := ⟨rfl, rfl, rfl, by decide +kernel, rfl, by decide +kernel, by decide +kernel⟩
theorem ck_need_cap : chkB N_need_cap B_need_cap (defScope st_need_cap) (defBody st_need_cap) = true := by decide +kernel
def N_need_start : List Str := ["cap", "start"]
def B_need_start : S := (.seq (.ife (.or (.not (.call "is_amount" F_is_amount (.acons (.var 1) .anil))) (.cmp .gt (.var 1) (.var 0))) (.seq .fail .nop) .nop) .nop)
def F_need_start := fnD 2 2 B_need_start
abbrev st_need_start : Stmt := topS 12
theorem sc_need_start : FnScope N_need_start ["cap", "start"] (defScope st_need_start) := ⟨rfl, rfl, rfl, by decide +kernel, rfl, by decide +kernel, by decide +kernel⟩
theorem ck_need_start : chkB N_need_start B_need_start (defScope st_need_start) (defBody st_need_start) = true := by decide +kernel
def N_stepped : List Str := ["content", "day", "cap", "wished"]
def B_stepped : S := (.seq (.asg (.nm 3) (.bin .add (.var 0) (.var 1))) (.seq (.ife (.cmp .gt (.var 3) (.var 2)) (.seq (.ret (.tup (.acons (.var 2) (.acons (.bin .sub (.var 3) (.var 2)) (.acons (.lit (.int 0)) .anil))))) .nop) .nop) (.seq (.ret (.ife (.cmp .lt (.var 3) (.lit (.int 0))) (.tup (.acons (.lit (.int 0)) (.acons (.lit (.int 0)) (.acons (.neg (.var 3)) .anil)))) (.tup (.acons (.var 3) (.acons (.lit (.int 0)) (.acons (.lit (.int 0)) .anil)))))) .nop)))
def F_stepped := fnD 4 3 B_stepped
abbrev st_stepped : Stmt := topS 13
theorem sc_stepped : FnScope N_stepped ["content", "day", "cap"] (defScope st_stepped) := ⟨rfl, rfl, rfl, by decide +kernel, rfl, by decide +kernel, by decide +kernel⟩
theorem ck_stepped : chkB N_stepped B_stepped (defScope st_stepped) (defBody st_stepped) = true := by decide +kernel
def N_ran : List Str := ["days", "cap", "start", "contents", "over", "short", "day", "content", "more", "less"]
def Y1_ran : S := (.seq (.asg (.tp (.cons (.nm 7) (.cons (.nm 8) (.cons (.nm 9) .nil)))) (.fx (.call "stepped" F_stepped (.acons (.subO 3 (.neg (.lit (.int 1)))) (.acons (.var 6) (.acons (.var 1) .anil)))))) (.seq (.app 3 (.var 7)) (.seq (.app 4 (.var 8)) (.seq (.app 5 (.var 9)) .nop))))
def W1_ran : S := .forr (.nm 6) (.seq (.var 0)) Y1_ran
def B_ran : S := (.seq (.asgL 3 (.lst (.acons (.var 2) .anil))) (.seq (.asgL 4 (.lst .anil)) (.seq (.asgL 5 (.lst .anil)) (.seq W1_ran (.seq (.ret (.tup (.acons (.var 3) (.acons (.var 4) (.acons (.var 5) .anil))))) .nop)))))
def F_ran := fnD 10 3 B_ran
abbrev st_ran : Stmt := topS 14
theorem sc_ran : FnScope N_ran ["days", "cap", "start"] (defScope st_ran) := ⟨rfl, rfl, rfl, by decide +kernel, rfl, by decide +kernel, by decide +kernel⟩
theorem ck_ran : chkB N_ran B_ran (defScope st_ran) (defBody st_ran) = true := by decide +kernel
def N_need_run : List Str := ["days", "cap", "start"]
def B_need_run : S := (.seq (.expr (.call "need_days" F_need_days (.acons (.var 0) .anil))) (.seq (.expr (.call "need_cap" F_need_cap (.acons (.var 1) .anil))) (.seq (.expr (.call "need_start" F_need_start (.acons (.var 1) (.acons (.var 2) .anil)))) .nop)))
def F_need_run := fnD 3 3 B_need_run
abbrev st_need_run : Stmt := topS 15
theorem sc_need_run : FnScope N_need_run ["days", "cap", "start"] (defScope st_need_run) := ⟨rfl, rfl, rfl, by decide +kernel, rfl, by decide +kernel, by decide +kernel⟩
theorem ck_need_run : chkB N_need_run B_need_run (defScope st_need_run) (defBody st_need_run) = true := by decide +kernel
def N_run : List Str := ["days", "cap", "start"]
def B_run : S := (.seq (.expr (.call "need_run" F_need_run (.acons (.var 0) (.acons (.var 1) (.acons (.var 2) .anil))))) (.seq (.ret (.call "ran" F_ran (.acons (.var 0) (.acons (.var 1) (.acons (.var 2) .anil))))) .nop))
def F_run := fnD 3 3 B_run
abbrev st_run : Stmt := topS 16
theorem sc_run : FnScope N_run ["days", "cap", "start"] (defScope st_run) := ⟨rfl, rfl, rfl, by decide +kernel, rfl, by decide +kernel, by decide +kernel⟩
theorem ck_run : chkB N_run B_run (defScope st_run) (defBody st_run) = true := by decide +kernel
def N_need_caps : List Str := ["caps", "cap"]
def L1_need_caps : C := .lc (.call "is_amount" F_is_amount (.acons (.var 1) .anil)) [1] (.nm 1) (.seq (.var 0)) .nop
def B_need_caps : S := (.seq (.ife (.or (.not (.isi .isList (.var 0))) (.not (.ch2 .le .le (.lit (.int 1)) (.blt .len (.acons (.var 0) .anil)) (.glob "MOST_VESSELS" (.int 12))))) (.seq .fail .nop) .nop) (.seq (.ife (.not (.blt .all (.acons L1_need_caps .anil))) (.seq .fail .nop) .nop) .nop))
def F_need_caps := fnD 2 1 B_need_caps
abbrev st_need_caps : Stmt := topS 19
theorem sc_need_caps : FnScope N_need_caps ["caps"] (defScope st_need_caps) := ⟨rfl, rfl, rfl, by decide +kernel, rfl, by decide +kernel, by decide +kernel⟩
theorem ck_need_caps : chkB N_need_caps B_need_caps (defScope st_need_caps) (defBody st_need_caps) = true := by decide +kernel
def N_poured : List Str := ["contents", "caps", "day", "found", "over", "content", "cap", "taken"]
def Y1_poured : S := (.seq (.asg (.nm 7) (.blt .min (.acons (.var 2) (.acons (.bin .sub (.var 6) (.var 5)) .anil)))) (.seq (.aug 2 .sub (.var 7)) (.seq (.app 3 (.bin .add (.var 5) (.var 7))) (.seq (.app 4 (.var 2)) .nop))))
def W1_poured : S := .forr (.tp (.cons (.nm 5) (.cons (.nm 6) .nil))) (.zip (.var 0) (.var 1)) Y1_poured
def B_poured : S := (.seq (.asgL 3 (.lst .anil)) (.seq (.asgL 4 (.lst .anil)) (.seq W1_poured (.seq (.ret (.tup (.acons (.var 3) (.acons (.var 4) .anil)))) .nop))))
def F_poured := fnD 8 3 B_poured
abbrev st_poured : Stmt := topS 20
theorem sc_poured : FnScope N_poured ["contents", "caps", "day"] (defScope st_poured) := ⟨rfl, rfl, rfl, by decide +kernel, rfl, by decide +kernel, by decide +kernel⟩
theorem ck_poured : chkB N_poured B_poured (defScope st_poured) (defBody st_poured) = true := by decide +kernel
def N_drawn : List Str := ["contents", "day", "found", "short", "content", "given"]
def Y1_drawn : S := (.seq (.asg (.nm 5) (.blt .min (.acons (.var 1) (.acons (.var 4) .anil)))) (.seq (.aug 1 .sub (.var 5)) (.seq (.app 2 (.bin .sub (.var 4) (.var 5))) (.seq (.app 3 (.var 1)) .nop))))
def W1_drawn : S := .forr (.nm 4) (.seq (.var 0)) Y1_drawn
def B_drawn : S := (.seq (.asgL 2 (.lst .anil)) (.seq (.asgL 3 (.lst .anil)) (.seq W1_drawn (.seq (.ret (.tup (.acons (.var 2) (.acons (.var 3) .anil)))) .nop))))
def F_drawn := fnD 6 2 B_drawn
abbrev st_drawn : Stmt := topS 21
theorem sc_drawn : FnScope N_drawn ["contents", "day"] (defScope st_drawn) := ⟨rfl, rfl, rfl, by decide +kernel, rfl, by decide +kernel, by decide +kernel⟩
theorem ck_drawn : chkB N_drawn B_drawn (defScope st_drawn) (defBody st_drawn) = true := by decide +kernel
def N_vessels : List Str := ["days", "caps", "contents", "nothing", "told", "day", "over", "short"]
def Y1_vessels : S := (.seq (.ife (.cmp .gt (.var 5) (.lit (.int 0))) (.seq (.asg (.tp (.cons (.nm 2) (.cons (.nm 6) .nil))) (.call "poured" F_poured (.acons (.var 2) (.acons (.var 1) (.acons (.var 5) .anil))))) (.seq (.app 4 (.tup (.acons (.blt .list (.acons (.var 2) .anil)) (.acons (.var 6) (.acons (.blt .list (.acons (.var 3) .anil)) .anil))))) .nop)) (.seq (.asg (.tp (.cons (.nm 2) (.cons (.nm 7) .nil))) (.call "drawn" F_drawn (.acons (.var 2) (.acons (.neg (.var 5)) .anil)))) (.seq (.app 4 (.tup (.acons (.blt .list (.acons (.var 2) .anil)) (.acons (.blt .list (.acons (.var 3) .anil)) (.acons (.var 7) .anil))))) .nop))) .nop)
def W1_vessels : S := .forr (.nm 5) (.seq (.var 0)) Y1_vessels
def B_vessels : S := (.seq (.expr (.call "need_days" F_need_days (.acons (.var 0) .anil))) (.seq (.expr (.call "need_caps" F_need_caps (.acons (.var 1) .anil))) (.seq (.asg (.nm 2) (.bin .mul (.lst (.acons (.lit (.int 0)) .anil)) (.blt .len (.acons (.var 1) .anil)))) (.seq (.asg (.nm 3) (.bin .mul (.lst (.acons (.lit (.int 0)) .anil)) (.blt .len (.acons (.var 1) .anil)))) (.seq (.asgL 4 (.lst .anil)) (.seq W1_vessels (.seq (.ret (.var 4)) .nop)))))))
def F_vessels := fnD 8 2 B_vessels
abbrev st_vessels : Stmt := topS 22
theorem sc_vessels : FnScope N_vessels ["days", "caps"] (defScope st_vessels) := ⟨rfl, rfl, rfl, by decide +kernel, rfl, by decide +kernel, by decide +kernel⟩
theorem ck_vessels : chkB N_vessels B_vessels (defScope st_vessels) (defBody st_vessels) = true := by decide +kernel
def N__law_cask : List Str := ["script", "k", "cell"]
def B__law_cask : S := (.seq (.asg (.nm 2) (.lit (.int 0))) (.seq (.ife (.cmp .lt (.var 1) (.lenR 0)) (.seq (.asg (.nm 2) (.subR 0 (.var 1))) .nop) .nop) (.seq (.retF (.lst (.acons (.blt .max (.acons (.lit (.int 0)) (.acons (.bin .sub (.blt .abs (.acons (.var 2) .anil)) (.bin .pow (.lit (.int 10)) (.lit (.int 18)))) .anil))) (.acons (.bin .add (.bin .mod (.var 2) (.bin .add (.bin .pow (.lit (.int 10)) (.lit (.int 37))) (.lit (.int 43)))) (.bin .mul (.lit (.int 9901)) (.var 1))) (.acons (.lit (.int 0)) .anil))))) .nop)))
def F__law_cask := fnRN 3 2 B__law_cask
abbrev st__law_cask : Stmt := topS 24
theorem sc__law_cask : FnScope N__law_cask ["script", "k"] (defScope st__law_cask) := ⟨rfl, rfl, rfl, by decide +kernel, rfl, by decide +kernel, by decide +kernel⟩
theorem ck__law_cask : chkB N__law_cask B__law_cask (defScope st__law_cask) (defBody st__law_cask) = true := by decide +kernel
def N__law_tap : List Str := ["cask", "wide", "mixed", "found"]
def B__law_tap : S := (.seq (.ife (.fx (.cmp .gt (.subO 0 (.lit (.int 0))) (.lit (.int 0)))) (.seq (.asg (.nm 3) (.bin .mod (.subO 0 (.lit (.int 0))) (.var 1))) (.seq (.setI 0 (.lit (.int 0)) (.bin .fdiv (.subO 0 (.lit (.int 0))) (.var 1))) (.seq (.ret (.var 3)) .nop))) .nop) (.seq (.setI 0 (.lit (.int 2)) (.bin .add (.subO 0 (.lit (.int 2))) (.lit (.int 1)))) (.seq (.asg (.nm 2) (.bin .mod (.bin .pow (.bin .add (.subO 0 (.lit (.int 1))) (.bin .mul (.lit (.int 86028121)) (.subO 0 (.lit (.int 2))))) (.lit (.int 3))) (.bin .add (.bin .pow (.lit (.int 10)) (.lit (.int 38))) (.lit (.int 133))))) (.seq (.asg (.nm 2) (.bin .mod (.bin .pow (.bin .add (.var 2) (.bin .mul (.lit (.int 122949823)) (.subO 0 (.lit (.int 2))))) (.lit (.int 3))) (.bin .add (.bin .pow (.lit (.int 10)) (.lit (.int 35))) (.lit (.int 69))))) (.seq (.ret (.bin .mod (.bin .fdiv (.var 2) (.lit (.int 131071))) (.var 1))) .nop)))))
def F__law_tap := fnIO 4 2 B__law_tap
abbrev st__law_tap : Stmt := topS 25
theorem sc__law_tap : FnScope N__law_tap ["cask", "wide"] (defScope st__law_tap) := ⟨rfl, rfl, rfl, by decide +kernel, rfl, by decide +kernel, by decide +kernel⟩
theorem ck__law_tap : chkB N__law_tap B__law_tap (defScope st__law_tap) (defBody st__law_tap) = true := by decide +kernel
def N__law_days : List Str := ["cask", "most", "wide", "found", "lean", "k", "size"]
def Y1__law_days : S := (.seq (.asg (.nm 6) (.sub (.lst (.acons (.cio "_law_tap" F__law_tap 0 (.acons (.lit (.int 4)) .anil)) (.acons (.cio "_law_tap" F__law_tap 0 (.acons (.lit (.int 20)) .anil)) (.acons (.cio "_law_tap" F__law_tap 0 (.acons (.var 2) .anil)) .anil)))) (.cio "_law_tap" F__law_tap 0 (.acons (.bin .add (.lit (.int 1)) (.var 4)) .anil)))) (.seq (.app 3 (.bin .mul (.var 6) (.sub (.lst (.acons (.lit (.int 1)) (.acons (.neg (.lit (.int 1))) .anil))) (.cio "_law_tap" F__law_tap 0 (.acons (.lit (.int 2)) .anil))))) .nop))
def W1__law_days : S := .forr (.nm 5) (.rng (.acons (.cio "_law_tap" F__law_tap 0 (.acons (.bin .add (.var 1) (.lit (.int 1))) .anil)) .anil)) Y1__law_days
def B__law_days : S := (.seq (.asgL 3 (.lst .anil)) (.seq (.asg (.nm 4) (.cio "_law_tap" F__law_tap 0 (.acons (.lit (.int 3)) .anil))) (.seq W1__law_days (.seq (.ret (.var 3)) .nop))))
def F__law_days := fnIO 7 3 B__law_days
abbrev st__law_days : Stmt := topS 26
theorem sc__law_days : FnScope N__law_days ["cask", "most", "wide"] (defScope st__law_days) := ⟨rfl, rfl, rfl, by decide +kernel, rfl, by decide +kernel, by decide +kernel⟩
theorem ck__law_days : chkB N__law_days B__law_days (defScope st__law_days) (defBody st__law_days) = true := by decide +kernel
def N__law_brims : List Str := ["cask", "wide", "lean", "found", "k"]
def Y1__law_brims : S := (.seq (.app 3 (.sub (.lst (.acons (.cio "_law_tap" F__law_tap 0 (.acons (.lit (.int 4)) .anil)) (.acons (.cio "_law_tap" F__law_tap 0 (.acons (.lit (.int 12)) .anil)) (.acons (.cio "_law_tap" F__law_tap 0 (.acons (.var 1) .anil)) .anil)))) (.cio "_law_tap" F__law_tap 0 (.acons (.bin .add (.lit (.int 1)) (.var 2)) .anil)))) .nop)
def W1__law_brims : S := .forr (.nm 4) (.rng (.acons (.bin .add (.lit (.int 1)) (.cio "_law_tap" F__law_tap 0 (.acons (.sub (.lst (.acons (.lit (.int 4)) (.acons (.lit (.int 12)) .anil))) (.cio "_law_tap" F__law_tap 0 (.acons (.lit (.int 2)) .anil))) .anil))) .anil)) Y1__law_brims
def B__law_brims : S := (.seq (.asg (.nm 2) (.cio "_law_tap" F__law_tap 0 (.acons (.lit (.int 3)) .anil))) (.seq (.asgL 3 (.lst .anil)) (.seq W1__law_brims (.seq (.ret (.var 3)) .nop))))
def F__law_brims := fnIO 5 2 B__law_brims
abbrev st__law_brims : Stmt := topS 27
theorem sc__law_brims : FnScope N__law_brims ["cask", "wide"] (defScope st__law_brims) := ⟨rfl, rfl, rfl, by decide +kernel, rfl, by decide +kernel, by decide +kernel⟩
theorem ck__law_brims : chkB N__law_brims B__law_brims (defScope st__law_brims) (defBody st__law_brims) = true := by decide +kernel
def N_law : List Str := ["script", "k", "cask", "flow", "brims", "told", "ahead", "some", "inside", "over", "short", "day", "d"]
def L1_law : C := .srev (.var 10)
def L2_law : C := .srev (.var 9)
def Y1_law : S := (.seq (.ife (.or (.cmp .ne (.var 9) L2_law) (.cmp .ne (.var 10) L1_law)) (.seq (.ret (.lit (.bool false))) .nop) .nop) .nop)
def W1_law : S := .forr (.tp (.cons (.nm 8) (.cons (.nm 9) (.cons (.nm 10) .nil)))) (.seq (.var 5)) Y1_law
def L3_law : C := .lc (.sub (.sub (.var 11) (.lit (.int 0))) (.bin .sub (.var 7) (.lit (.int 1)))) [11] (.nm 11) (.seq (.var 5)) .nop
def L4_law : C := .lc (.bin .sub (.sub (.var 8) (.var 12)) (.sub (.var 6) (.var 12))) [12] (.nm 12) (.rng (.acons (.lit (.int 1)) (.acons (.blt .len (.acons (.var 8) .anil)) .anil))) .nop
def L5_law : C := .lc (.sub (.sub (.var 11) (.lit (.int 2))) (.bin .sub (.var 7) (.lit (.int 1)))) [11] (.nm 11) (.seq (.var 5)) .nop
def L6_law : C := .lc (.sub (.sub (.var 11) (.lit (.int 1))) (.bin .sub (.var 7) (.lit (.int 1)))) [11] (.nm 11) (.seq (.var 5)) .nop
def L7_law : C := .lc (.blt .sum (.acons (.slice (.sub (.var 11) (.lit (.int 0))) .nop (.var 7)) .anil)) [11] (.nm 11) (.seq (.var 5)) .nop
def Y2_law : S := (.seq (.asg (.tp (.cons (.nm 8) (.cons (.nm 9) (.cons (.nm 10) .nil)))) (.call "run" F_run (.acons (.var 3) (.acons (.blt .sum (.acons (.slice (.var 4) .nop (.var 7)) .anil)) (.acons (.lit (.int 0)) .anil))))) (.seq (.ife (.cmp .ne L7_law (.slice (.var 8) (.lit (.int 1)) .nop)) (.seq (.ret (.lit (.bool false))) .nop) .nop) (.seq (.ife (.or (.cmp .ne L6_law (.var 9)) (.cmp .ne L5_law (.var 10))) (.seq (.ret (.lit (.bool false))) .nop) .nop) (.seq (.ife (.cmp .ne L3_law L4_law) (.seq (.ret (.lit (.bool false))) .nop) .nop) (.seq (.asg (.nm 6) (.var 8)) .nop)))))
def W2_law : S := .forr (.nm 7) (.rng (.acons (.lit (.int 1)) (.acons (.bin .add (.blt .len (.acons (.var 4) .anil)) (.lit (.int 1))) .anil))) Y2_law
def Y3_law : S := (.seq (.asgL 2 (.croN "_law_cask" F__law_cask 0 (.acons (.var 1) .anil))) (.seq (.asg (.nm 3) (.cio "_law_days" F__law_days 2 (.acons (.sub (.lst (.acons (.lit (.int 8)) (.acons (.lit (.int 80)) (.acons (.lit (.int 200)) .anil)))) (.cio "_law_tap" F__law_tap 2 (.acons (.lit (.int 3)) .anil))) (.acons (.bin .pow (.lit (.int 10)) (.lit (.int 12))) .anil)))) (.seq (.asg (.nm 4) (.cio "_law_brims" F__law_brims 2 (.acons (.bin .pow (.lit (.int 10)) (.lit (.int 11))) .anil))) (.seq (.asg (.nm 5) (.call "vessels" F_vessels (.acons (.var 3) (.acons (.var 4) .anil)))) (.seq (.asg (.nm 6) (.bin .mul (.lst (.acons (.lit (.int 0)) .anil)) (.bin .add (.blt .len (.acons (.var 3) .anil)) (.lit (.int 1))))) (.seq W2_law (.seq W1_law .nop)))))))
def W3_law : S := .forr (.nm 1) (.rng (.acons (.blt .max (.acons (.lit (.int 1)) (.acons (.blt .min (.acons (.lit (.int 4)) (.acons (.lenR 0) .anil))) .anil))) .anil)) Y3_law
def B_law : S := (.seq W3_law (.seq (.ret (.lit (.bool true))) .nop))
def F_law := fnRO 13 1 B_law
abbrev st_law : Stmt := topS 28
theorem sc_law : FnScope N_law ["script"] (defScope st_law) := ⟨rfl, rfl, rfl, by decide +kernel, rfl, by decide +kernel, by decide +kernel⟩
theorem ck_law : chkB N_law B_law (defScope st_law) (defBody st_law) = true := by decide +kernel
end Sm

set_option Elab.async false
set_option linter.all false
set_option maxRecDepth 100000
set_option maxHeartbeats 4000000
namespace Sm
open PySem PySem.Spec PyProof.Rows L2
/-! ### the law's own draws -/
def Ck (n : Nat) (c : List D) : Prop := ∃ a b k : Int, c = [.int a, .int b, .int k] ∧ 0 ≤ a ∧ 0 ≤ b ∧ b < 2 ^ 200 ∧ 0 ≤ k ∧ k ≤ n
theorem ib10 : Builtin.Int.intBits 10 = 4 := by decide +kernel
theorem l131 : Nat.log2 131071 < 9000 := by decide +kernel
theorem cube_bits {x : Int} (h : 0 ≤ x) (h2 : x < 2 ^ 201) : (Builtin.Int.intBits x : Int) * 3 ≤ 134217728 := by
  have := intBits_lt h h2
  omega
theorem tap_ok {n : Nat} {c : List D} {w : Int} (hc : Ck n c) (hw : 0 < w) (hw2 : w < 2 ^ 400) (hn : n < 2 ^ 60) : ∃ (r : Int) (c' : List D), F__law_tap c [.int w] = some (.int r, c') ∧ 0 ≤ r ∧ r < w ∧ Ck (n + 1) c' := by
  obtain ⟨a, b, k, rfl, ha, hb, hb2, hk, hk2⟩ := hc
  have hlog : w.natAbs.log2 < 9000 := by
    have := bits_lt (i := w) (k := 400) (by omega) hw2
    omega
  by_cases h : 0 < a
  · refine ⟨a % w, [.int (a / w), .int b, .int k], ?_, Int.emod_nonneg _ (by omega), Int.emod_lt_of_pos _ hw, a / w, b, k, rfl, Int.ediv_nonneg ha (by omega), hb, hb2, hk, by omega⟩
    simp [F__law_tap, fnIO, B__law_tap, startS, evS, evC, evA, evI, bindT, bindT.bindTs, binD, cmpD, atD, ownS, getO, atI_zero, atI_one, atI_two, h, hw, hlog, ixN, flatD]
  · have e1 : bitsOk 86028121 (k + 1) = true := bitsOk_lt (k := 40) (l := 70) (by decide) (by decide) (by omega) (by omega) (by decide)
    have e2 : bitsOk 122949823 (k + 1) = true := bitsOk_lt (k := 40) (l := 70) (by decide) (by decide) (by omega) (by omega) (by decide)
    have e3 : (Builtin.Int.intBits (b + 86028121 * (k + 1)) : Int) * 3 ≤ 134217728 := cube_bits (by omega) (by omega)
    have m1 : 0 ≤ (b + 86028121 * (k + 1)) ^ 3 % (10 ^ 38 + 133) := Int.emod_nonneg _ (by omega)
    have m2 : (b + 86028121 * (k + 1)) ^ 3 % (10 ^ 38 + 133) < 10 ^ 38 + 133 := Int.emod_lt_of_pos _ (by omega)
    generalize hx : (b + 86028121 * (k + 1)) ^ 3 % (10 ^ 38 + 133) = x at m1 m2
    have e4 : (Builtin.Int.intBits (x + 122949823 * (k + 1)) : Int) * 3 ≤ 134217728 := cube_bits (by omega) (by omega)
    have hx2 := hx
    simp at hx2
    refine ⟨(x + 122949823 * (k + 1)) ^ 3 % (10 ^ 35 + 69) / 131071 % w, [.int a, .int b, .int (k + 1)], ?_, Int.emod_nonneg _ (by omega), Int.emod_lt_of_pos _ hw, a, b, k + 1, rfl, ha, hb, hb2, by omega, by omega⟩
    simp [F__law_tap, fnIO, B__law_tap, startS, evS, evC, evA, evI, bindT, bindT.bindTs, binD, cmpD, atD, ownS, getO, atI_zero, atI_one, atI_two, h, hw, hlog, ixN, flatD, e1, e2, e3, e4, hx, hx2, ib10, l131]

def caskL (x k : Int) : List D := [.int (if (if x < 0 then -x else x) - 10 ^ 18 > 0 then (if x < 0 then -x else x) - 10 ^ 18 else 0), .int (x % (10 ^ 37 + 43) + 9901 * k), .int 0]
theorem caskL_ck (x : Int) (k : Nat) (hk : k ≤ 1000) : Ck 0 (caskL x k) := by
  refine ⟨_, _, _, rfl, ?_, ?_, ?_, by omega, by omega⟩
  · split <;> omega
  · omega
  · omega
theorem cask_ok (ns : List Int) (k : Nat) (hk : k ≤ 1000) : ∃ c, F__law_cask ns [.int k] = some c ∧ Ck 0 c := by
  have e9 : bitsOk 9901 (k : Int) = true := bitsOk_lt (k := 40) (l := 70) (by decide) (by decide) (by omega) (by omega) (by decide)
  by_cases h : k < ns.length
  · have g : atI ns (k : Int) = some ns[k] := by rw [atI_n]; simp [h]
    refine ⟨caskL ns[k] k, ?_, caskL_ck _ k hk⟩
    simp [F__law_cask, fnRN, B__law_cask, startS, evS, evC, evA, evI, bindT, bindT.bindTs, binD, cmpD, bltD, roS, atD, ownS, getO, h, g, e9, ib10, flatD, line, freshC, caskL]
  · refine ⟨caskL 0 k, ?_, caskL_ck _ k hk⟩
    simp [F__law_cask, fnRN, B__law_cask, startS, evS, evC, evA, evI, bindT, bindT.bindTs, binD, cmpD, bltD, roS, atD, ownS, getO, h, e9, ib10, flatD, line, freshC, caskL]
theorem Ck.le {n m : Nat} {c : List D} (h : Ck n c) (hm : n ≤ m) : Ck m c := by
  obtain ⟨a, b, k, e, h1, h2, h3, h4, h5⟩ := h
  exact ⟨a, b, k, e, h1, h2, h3, h4, by omega⟩
/-- one of three draws -/
theorem pick3 {a b c r : Int} {W : Int} (hr : 0 ≤ r) (hr2 : r < 3) (ha : 0 ≤ a ∧ a < W) (hb : 0 ≤ b ∧ b < W) (hc : 0 ≤ c ∧ c < W) : ∃ x : Int, atI [PyData.int a, PyData.int b, PyData.int c] r = some (.int x) ∧ 0 ≤ x ∧ x < W := by
  rcases (show r = 0 ∨ r = 1 ∨ r = 2 by omega) with rfl | rfl | rfl
  · exact ⟨a, by simp [atI_zero], ha⟩
  · exact ⟨b, by simp [atI_one], hb⟩
  · exact ⟨c, by simp [atI_two], hc⟩
theorem sign_ok {r : Int} (h : 0 ≤ r) (h2 : r < 2) : ∃ s : Int, atI [PyData.int 1, PyData.int (-1)] r = some (.int s) ∧ (s = 1 ∨ s = -1) := by
  rcases (show r = 0 ∨ r = 1 by omega) with rfl | rfl
  · exact ⟨1, by simp [atI_zero], .inl rfl⟩
  · exact ⟨-1, by simp [atI_one], .inr rfl⟩
/-- a row of days, none greater than W -/
def Dys (W : Int) (m : Nat) (l : List Int) : Prop := l.length ≤ m ∧ ∀ d ∈ l, -W < d ∧ d < W
theorem days_step {n : Nat} {c : List D} {W lean : Int} {m : Int} {l : List Int} {k : D} {x5 x6 : Sl} (hc : Ck n c) (hl : 0 ≤ lean ∧ lean < 3) (hW : 30 ≤ W) (hW2 : W < 2 ^ 400) (hn : n + 5 < 2 ^ 60) (hll : l.length < 100000) (hd : ∀ d ∈ l, -W < d ∧ d < W) :
    ∃ (d : Int) (s : Int) (c' : List D), evS Y1__law_days [.ow c, .sh (.int m), .sh (.int W), .ow (l.map .int), .sh (.int lean), .sh k, x6] = some (.nx [.ow c', .sh (.int m), .sh (.int W), .ow ((l ++ [d]).map .int), .sh (.int lean), .sh k, .sh (.int s)]) ∧ -W < d ∧ d < W ∧ Ck (n + 5) c' := by
  obtain ⟨r1, c1, e1, p1, q1, k1⟩ := tap_ok (w := 4) hc (by omega) (by omega) (by omega)
  obtain ⟨r2, c2, e2, p2, q2, k2⟩ := tap_ok (w := 20) k1 (by omega) (by omega) (by omega)
  obtain ⟨r3, c3, e3, p3, q3, k3⟩ := tap_ok (w := W) k2 (by omega) (by omega) (by omega)
  obtain ⟨r4, c4, e4, p4, q4, k4⟩ := tap_ok (w := 1 + lean) k3 (by omega) (by omega) (by omega)
  obtain ⟨x, ex, h1, h2⟩ := pick3 (W := W) p4 (by omega) (a := r1) (b := r2) (c := r3) ⟨p1, by omega⟩ ⟨p2, by omega⟩ ⟨p3, q3⟩
  obtain ⟨r5, c5, e5, p5, q5, k5⟩ := tap_ok (w := 2) k4 (by omega) (by omega) (by omega)
  obtain ⟨s, es, hs⟩ := sign_ok p5 q5
  have hb : bitsOk x s = true := bitsOk_lt (k := 400) (l := 4) (by omega) (by omega) (by omega) (by omega) (by decide)
  refine ⟨x * s, x, c5, ?_, ?_, ?_, k5⟩
  · have hll2 : l.length < 16777216 := by omega
    simp [Y1__law_days, evS, evC, evA, evI, bindT, bindT.bindTs, binD, cmpD, bltD, subD, roS, atD, ownS, getO, line, e1, e2, e3, e4, e5, ex, es, hb, hll2]
  · rcases hs with rfl | rfl <;> omega
  · rcases hs with rfl | rfl <;> omega
theorem days_ok {n : Nat} {c : List D} {m W : Int} (hc : Ck n c) (hm : 0 ≤ m) (hm2 : m ≤ 1000) (hW : 30 ≤ W) (hW2 : W < 2 ^ 400) (hn : n + 6000 < 2 ^ 60) : ∃ (l : List Int) (c' : List D), F__law_days c [.int m, .int W] = some (il l, c') ∧ Dys W m.toNat l ∧ Ck (n + 6000) c' := by
  obtain ⟨r1, c1, e1, p1, q1, k1⟩ := tap_ok (w := 3) hc (by omega) (by omega) (by omega)
  obtain ⟨r2, c2, e2, p2, q2, k2⟩ := tap_ok (w := m + 1) k1 (by omega) (by omega) (by omega)
  have hr : inR r2 = true := inR_mk (by omega) (by omega)
  obtain ⟨st, e3, c3, x5, x6, l, e4, k4, l4, d4⟩ := floop_inv (fun d st1 => (bindT (.nm 5) d st1).bind fun st2 => evS Y1__law_days st2)
    (fun r st => ∃ c' x5 x6 l, st = [.ow c', .sh (.int m), .sh (.int W), .ow (l.map .int), .sh (.int r1), x5, x6] ∧ Ck (n + 2 + 5 * l.length) c' ∧ l.length + r.length = r2.toNat ∧ ∀ d ∈ l, -W < d ∧ d < W)
    (rngD 0 1 r2.toNat) [.ow c2, .sh (.int m), .sh (.int W), .ow [], .sh (.int r1), .emp, .emp]
    ⟨c2, _, _, [], rfl, k2, by simp [rngD], by simp⟩ (by
      rintro d r s ⟨c', x5, x6, l, rfl, hk, hlen, hd⟩
      rw [List.length_cons] at hlen
      obtain ⟨y, z, c'', ee, y1, y2, kk⟩ := days_step (k := d) (x5 := x5) (x6 := x6) (m := m) hk ⟨p1, q1⟩ hW hW2 (by omega) (by omega) hd
      refine ⟨_, .inl ?_, c'', .sh d, .sh (.int z), l ++ [y], rfl, kk.le (by rw [List.length_append, List.length_singleton]; omega), by rw [List.length_append, List.length_singleton]; omega, ?_⟩
      · simp only [bindT, List.length_cons, List.length_nil]
        simp
        rw [ee]
        simp
      · intro d' h'
        rcases List.mem_append.mp h' with h' | h'
        · exact hd d' h'
        · simp only [List.mem_singleton] at h'
          subst h'
          exact ⟨y1, y2⟩)
  rw [e4] at e3
  simp only [List.length_nil] at l4
  refine ⟨l, c3, ?_, ⟨by omega, d4⟩, k4.le (by omega)⟩
  have e5 : evS W1__law_days [.ow c1, .sh (.int m), .sh (.int W), .ow [], .sh (.int r1), .emp, .emp] = some (.nx [.ow c3, .sh (.int m), .sh (.int W), .ow (l.map .int), .sh (.int r1), x5, x6]) := by
    unfold W1__law_days
    rw [evS_forr]
    simp only [evI, evA, evC, binD, ownS, List.getElem?_cons_zero, List.getElem?_cons_succ, Option.bind_some, Option.map_some, e2, hr, if_true, List.set_cons_zero]
    exact e3
  simp [F__law_days, fnIO, B__law_days, startS, evS, evC, evA, evI, bindT, ownS, getO, line, freshC, e1, e5, il]
end Sm

set_option Elab.async false
set_option linter.all false
set_option maxRecDepth 100000
set_option maxHeartbeats 4000000
namespace Sm
open PySem PySem.Spec PyProof.Rows L2
/-! ### a run -/
def nxt (cap s d : Int) : Int := if s + d > cap then cap else if s + d < 0 then 0 else s + d
def ovr (cap s d : Int) : Int := if s + d > cap then s + d - cap else 0
def sht (cap s d : Int) : Int := if s + d > cap then 0 else if s + d < 0 then -(s + d) else 0
/-- the contents behind the start -/
def cts (cap : Int) : Int → List Int → List Int
  | _, [] => []
  | s, d :: r => nxt cap s d :: cts cap (nxt cap s d) r
def ovs (cap : Int) : Int → List Int → List Int
  | _, [] => []
  | s, d :: r => ovr cap s d :: ovs cap (nxt cap s d) r
def shs (cap : Int) : Int → List Int → List Int
  | _, [] => []
  | s, d :: r => sht cap s d :: shs cap (nxt cap s d) r
def lastC (cap : Int) : Int → List Int → Int
  | s, [] => s
  | s, d :: r => lastC cap (nxt cap s d) r
theorem cts_len (cap : Int) : ∀ (l : List Int) (s : Int), (cts cap s l).length = l.length
  | [], _ => rfl
  | d :: r, s => by simp [cts, cts_len cap r]
theorem ovs_len (cap : Int) : ∀ (l : List Int) (s : Int), (ovs cap s l).length = l.length
  | [], _ => rfl
  | d :: r, s => by simp [ovs, ovs_len cap r]
theorem shs_len (cap : Int) : ∀ (l : List Int) (s : Int), (shs cap s l).length = l.length
  | [], _ => rfl
  | d :: r, s => by simp [shs, shs_len cap r]
theorem is_whole_ok (i : Int) : F_is_whole [.int i] = some (.bool true) := by
  simp [F_is_whole, fnD, B_is_whole, startS, evS, evC, evA, bltD]
theorem is_amount_ok (i : Int) : F_is_amount [.int i] = some (.bool (decide (0 ≤ i))) := by
  simp [F_is_amount, fnD, B_is_amount, startS, evS, evC, evA, bltD, is_whole_ok, cmpD]
theorem is_days_ok (l : List Int) (hl : l.length ≤ line) : F_is_days [il l] = some (.bool true) := by
  have h1 : evC L1_is_days [.sh (il l), .emp] = some (.list (l.map fun _ => .bool true), [.sh (il l), .emp]) := by
    unfold L1_is_days
    rw [ev_lc (st1 := [.sh (il l), .emp]) l .int (fun _ => .bool true) (by simp [evI, evC, il]) hl (by
      intro x hx
      simp [bindT, wipeS, evC, evA, is_whole_ok])]
    simp [wipeS, backS]
  have h2 : boolsD (l.map fun _ => .bool true) = some (l.map fun _ => true) := by
    have := boolsD_map (l.map fun _ => true)
    rw [List.map_map] at this
    exact this
  simp [F_is_days, fnD, B_is_days, startS, evS, evC, evA, bltD, h1, il, h2] 
  simp [il] at h1
  simp [h1, bltD, h2]
theorem need_days_ok (l : List Int) (hl : l.length ≤ line) : F_need_days [il l] = some .none := by
  simp [F_need_days, fnD, B_need_days, startS, evS, evC, evA, is_days_ok l hl]
theorem need_cap_ok (i : Int) (h : 0 ≤ i) : F_need_cap [.int i] = some .none := by
  simp [F_need_cap, fnD, B_need_cap, startS, evS, evC, evA, is_amount_ok, h]
theorem need_start_ok (c i : Int) (h : 0 ≤ i) (h2 : i ≤ c) : F_need_start [.int c, .int i] = some .none := by
  have h3 : ¬ c < i := by omega
  simp [F_need_start, fnD, B_need_start, startS, evS, evC, evA, is_amount_ok, h, cmpD, h3]
theorem stepped_ok (c d cap : Int) : F_stepped [.int c, .int d, .int cap] = some (.tuple [.int (nxt cap c d), .int (ovr cap c d), .int (sht cap c d)]) := by
  by_cases h : c + d > cap
  · have h' : cap < c + d := h
    simp [F_stepped, fnD, B_stepped, startS, evS, evC, evA, bindT, binD, cmpD, line, nxt, ovr, sht, h, h']
  · have h' : ¬ cap < c + d := h
    by_cases h2 : c + d < 0
    · simp [F_stepped, fnD, B_stepped, startS, evS, evC, evA, bindT, binD, cmpD, line, nxt, ovr, sht, h, h', h2]
    · simp [F_stepped, fnD, B_stepped, startS, evS, evC, evA, bindT, binD, cmpD, line, nxt, ovr, sht, h, h', h2]
theorem flat_tup (l : List D) : flatD (.tuple l) = false := rfl
theorem flat_list (l : List D) : flatD (.list l) = false := rfl
theorem flat_int (i : Int) : flatD (.int i) = true := rfl
theorem flat_bool (i : Bool) : flatD (.bool i) = true := rfl
theorem flat_none : flatD .none = true := rfl
theorem evS_seq {a b : S} {st st1 : DS} (h : evS a st = some (.nx st1)) : evS (.seq a b) st = evS b st1 := by
  rw [evS, h]
theorem evC_fx {a : C} {st st1 : DS} {d : D} (h : evC a st = some (d, st1)) : evC (.fx a) st = some (if flatD d then (d, st) else (d, st1)) := by
  rw [evC, h]
  rfl
theorem ran_stepF (cap : Int) (a0 a2 : D) (d c : Int) (cs os ss : List Int) (x7 x8 x9 : Sl) : evC (.fx (.call "stepped" F_stepped (.acons (.subO 3 (.neg (.lit (.int 1)))) (.acons (.var 6) (.acons (.var 1) .anil))))) [.sh a0, .sh (.int cap), .sh a2, .ow ((cs ++ [c]).map .int), .ow (os.map .int), .ow (ss.map .int), .sh (.int d), x7, x8, x9] = some (.tuple [.int (nxt cap c d), .int (ovr cap c d), .int (sht cap c d)], [.sh a0, .sh (.int cap), .sh a2, .ow ((cs ++ [c]).map .int), .ow (os.map .int), .ow (ss.map .int), .sh (.int d), x7, x8, x9]) := by
  have hat : atI (cs.map PyData.int ++ [PyData.int c]) (-1) = some (.int c) := atI_end _ _
  rw [evC_fx (d := .tuple [.int (nxt cap c d), .int (ovr cap c d), .int (sht cap c d)]) (st1 := [.sh a0, .sh (.int cap), .sh a2, .ow ((cs ++ [c]).map .int), .ow (os.map .int), .ow (ss.map .int), .sh (.int d), x7, x8, x9]) (by
    simp [evC, evA, getO, atD, hat, stepped_ok])]
  rfl
theorem ran_step (cap : Int) (a0 a2 : D) (d c : Int) (cs os ss : List Int) (x7 x8 x9 : Sl) (g1 : cs.length + 1 < line) (g2 : os.length < line) (g3 : ss.length < line) : evS Y1_ran [.sh a0, .sh (.int cap), .sh a2, .ow ((cs ++ [c]).map .int), .ow (os.map .int), .ow (ss.map .int), .sh (.int d), x7, x8, x9] = some (.nx [.sh a0, .sh (.int cap), .sh a2, .ow ((cs ++ [c] ++ [nxt cap c d]).map .int), .ow ((os ++ [ovr cap c d]).map .int), .ow ((ss ++ [sht cap c d]).map .int), .sh (.int d), .sh (.int (nxt cap c d)), .sh (.int (ovr cap c d)), .sh (.int (sht cap c d))]) := by
  unfold Y1_ran
  rw [evS_seq (st1 := [.sh a0, .sh (.int cap), .sh a2, .ow ((cs ++ [c]).map .int), .ow (os.map .int), .ow (ss.map .int), .sh (.int d), .sh (.int (nxt cap c d)), .sh (.int (ovr cap c d)), .sh (.int (sht cap c d))]) (by
    rw [evS, ran_stepF]; rfl)]
  simp [evS, evC, ownS, g1, g2, g3]
theorem ran_loop (cap : Int) (a0 a2 : D) : ∀ (l cs os ss : List Int) (c : Int) (x6 x7 x8 x9 : Sl), cs.length + 1 + l.length ≤ line → os.length + l.length ≤ line → ss.length + l.length ≤ line → ∃ y6 y7 y8 y9,
    floop (fun d st1 => (bindT (.nm 6) d st1).bind fun st2 => evS Y1_ran st2) (l.map .int) [.sh a0, .sh (.int cap), .sh a2, .ow ((cs ++ [c]).map .int), .ow (os.map .int), .ow (ss.map .int), x6, x7, x8, x9]
      = some (.nx [.sh a0, .sh (.int cap), .sh a2, .ow ((cs ++ c :: cts cap c l).map .int), .ow ((os ++ ovs cap c l).map .int), .ow ((ss ++ shs cap c l).map .int), y6, y7, y8, y9])
  | [], cs, os, ss, c, x6, x7, x8, x9, _, _, _ => ⟨x6, x7, x8, x9, by simp [floop, cts, ovs, shs]⟩
  | d :: r, cs, os, ss, c, x6, x7, x8, x9, h1, h2, h3 => by
    rw [List.length_cons] at h1 h2 h3
    obtain ⟨y6, y7, y8, y9, e⟩ := ran_loop cap a0 a2 r (cs ++ [c]) (os ++ [ovr cap c d]) (ss ++ [sht cap c d]) (nxt cap c d) (.sh (.int d)) (.sh (.int (nxt cap c d))) (.sh (.int (ovr cap c d))) (.sh (.int (sht cap c d))) (by rw [List.length_append, List.length_singleton]; omega) (by rw [List.length_append, List.length_singleton]; omega) (by rw [List.length_append, List.length_singleton]; omega)
    refine ⟨y6, y7, y8, y9, ?_⟩
    have g1 : cs.length + 1 < line := by omega
    have g2 : os.length < line := by omega
    have g3 : ss.length < line := by omega
    rw [List.map_cons, floop]
    have hb : ((bindT (.nm 6) (.int d) [.sh a0, .sh (.int cap), .sh a2, .ow ((cs ++ [c]).map .int), .ow (os.map .int), .ow (ss.map .int), x6, x7, x8, x9]).bind fun st2 => evS Y1_ran st2) = evS Y1_ran [.sh a0, .sh (.int cap), .sh a2, .ow ((cs ++ [c]).map .int), .ow (os.map .int), .ow (ss.map .int), .sh (.int d), x7, x8, x9] := rfl
    rw [hb, ran_step cap a0 a2 d c cs os ss x7 x8 x9 g1 g2 g3]
    simp only
    rw [e]
    simp [cts, ovs, shs]
theorem ran_ok (l : List Int) (cap s : Int) (hl : l.length < line) : F_ran [il l, .int cap, .int s] = some (.tuple [il (s :: cts cap s l), il (ovs cap s l), il (shs cap s l)]) := by
  obtain ⟨y6, y7, y8, y9, e⟩ := ran_loop cap (il l) (.int s) l [] [] [] s .emp .emp .emp .emp (by simp; omega) (by simp; omega) (by simp; omega)
  have h : evS W1_ran [.sh (il l), .sh (.int cap), .sh (.int s), .ow [.int s], .ow [], .ow [], .emp, .emp, .emp, .emp] = some (.nx [.sh (il l), .sh (.int cap), .sh (.int s), .ow ((s :: cts cap s l).map .int), .ow ((ovs cap s l).map .int), .ow ((shs cap s l).map .int), y6, y7, y8, y9]) := by
    unfold W1_ran
    rw [evS_forr]
    simp only [evI, evC, List.getElem?_cons_zero, Option.bind_some, il]
    exact e
  simp [F_ran, fnD, B_ran, startS, evS, evC, evA, line, freshC, h]
  simp [il]
theorem need_run_ok (l : List Int) (cap s : Int) (hl : l.length < line) (h : 0 ≤ s) (h2 : s ≤ cap) : F_need_run [il l, .int cap, .int s] = some .none := by
  simp [F_need_run, fnD, B_need_run, startS, evS, evC, evA, need_days_ok l (by omega), need_cap_ok cap (by omega), need_start_ok cap s h h2]
theorem run_ok (l : List Int) (cap s : Int) (hl : l.length < line) (h : 0 ≤ s) (h2 : s ≤ cap) : F_run [il l, .int cap, .int s] = some (.tuple [il (s :: cts cap s l), il (ovs cap s l), il (shs cap s l)]) := by
  simp [F_run, fnD, B_run, startS, evS, evC, evA, need_run_ok l cap s hl h h2, ran_ok l cap s hl]
end Sm

set_option Elab.async false
set_option linter.all false
set_option maxRecDepth 100000
set_option maxHeartbeats 4000000
namespace Sm
open PySem PySem.Spec PyProof.Rows L2
/-! ### equality and order of rows of numbers -/
theorem eqvAll_ints : ∀ a b : List Int, PyData.eqvAll (a.map PyData.int) (b.map PyData.int) = decide (a = b)
  | [], [] => by simp [PyData.eqvAll]
  | [], _ :: _ => by simp [PyData.eqvAll]
  | _ :: _, [] => by simp [PyData.eqvAll]
  | x :: a, y :: b => by
    rw [List.map_cons, List.map_cons, PyData.eqvAll, eqvAll_ints a b, PyData.eqv]
    by_cases h : x = y <;> simp [h]
theorem eqv_il (a b : List Int) : PyData.eqv (il a) (il b) = decide (a = b) := by
  unfold il
  rw [PyData.eqv, eqvAll_ints]
theorem canLay_ints : ∀ a : List Int, PyData.canLayAll0 (a.map PyData.int) = true
  | [] => rfl
  | x :: r => by simp [PyData.canLayAll0, PyData.canLay0, canLay_ints r]
theorem depth_ints : ∀ a : List Int, PyData.depthAll (a.map PyData.int) ≤ 1
  | [] => by simp [PyData.depthAll]
  | x :: r => by
    have := depth_ints r
    simp [PyData.depthAll, PyData.depth]
    omega
theorem shaped_il (a : List Int) : SeqAt.shaped (il a) = true := by
  unfold SeqAt.shaped il
  have := depth_ints a
  simp [PyData.canLay0, canLay_ints, PyData.depth]
  omega
theorem shaped_int (a : Int) : SeqAt.shaped (.int a) = true := rfl
theorem eqv_int (a b : Int) : PyData.eqv (.int a) (.int b) = decide (a = b) := by
  rw [PyData.eqv]
  by_cases h : a = b <;> simp [h]
/-- b less a, place by place -/
def apt (a b : List Int) : List Int := List.zipWith (fun x y => y - x) a b
theorem apt_get {a b : List Int} (h : a.length ≤ b.length) : (List.range a.length).map (fun i => b.getD i 0 - a.getD i 0) = apt a b := by
  unfold apt
  apply List.ext_getElem
  · simp; omega
  · intro i h1 h2
    simp only [List.length_map, List.length_range] at h1
    have h3 : i < b.length := by omega
    simp [h1, h3]
theorem apt_len {a b : List Int} (h : a.length = b.length) : (apt a b).length = a.length := by
  unfold apt
  simp; omega
theorem at_il {a : List Int} {i : Nat} (h : i < a.length) : atI (a.map PyData.int) (i : Int) = some (.int (a.getD i 0)) := by
  rw [atI_n, List.getElem?_map]
  simp [h]
theorem inR_len {n : Nat} (h : n ≤ line) : inR (n : Int) = true := by
  have h2 : n ≤ 16777216 := h
  exact inR_mk (by omega) (by omega)
end Sm

set_option Elab.async false
set_option linter.all false
set_option maxRecDepth 100000
set_option maxHeartbeats 4000000
namespace Sm
open PySem PySem.Spec PyProof.Rows L2
theorem evI_rng1 {l : C} {st st1 : DS} {n : Int} (h : evA l st = some ([.int n], st1)) (hr : inR n = true) : evI (.rng l) st = some ((List.range n.toNat).map fun (i : Nat) => .int (i : Int), st1) := by
  rw [evI, h]
  simp only [Option.bind_some]
  rw [if_pos hr, rng_map]
  simp only [Int.zero_add]
theorem evI_rng2 {l : C} {st st1 : DS} {n m : Int} (h : evA l st = some ([.int n, .int m], st1)) (hr : inR n = true) (hr2 : inR m = true) : evI (.rng l) st = some ((List.range (m - n).toNat).map fun (i : Nat) => .int (n + (i : Int)), st1) := by
  rw [evI, h]
  simp only [Option.bind_some]
  rw [hr, hr2, Bool.and_self, if_pos rfl, rng_map]
theorem range_le {n : Nat} (h : n ≤ line) : (List.range n).length ≤ line := by rw [List.length_range]; exact h
theorem len_il (a : List Int) : bltD .len [il a] = some (.int a.length) := by
  simp [bltD, il]
theorem sum_il (a : List Int) : bltD .sum [il a] = some (.int a.sum) := by
  simp [bltD, il, intsD_map]
theorem min_il (x : Int) (a : List Int) : bltD .min [il (x :: a)] = some (.int (minL (x :: a))) := by
  have := intsD_map (x :: a)
  simp only [bltD, il, this]
theorem max_il (x : Int) (a : List Int) : bltD .max [il (x :: a)] = some (.int (maxL (x :: a))) := by
  have := intsD_map (x :: a)
  simp only [bltD, il, this]
theorem min_ne {a : List Int} (h : a ≠ []) : bltD .min [il a] = some (.int (minL a)) := by
  cases a with
  | nil => exact absurd rfl h
  | cons x r => exact min_il x r
theorem max_ne {a : List Int} (h : a ≠ []) : bltD .max [il a] = some (.int (maxL a)) := by
  cases a with
  | nil => exact absurd rfl h
  | cons x r => exact max_il x r
theorem minL_ge {c : Int} : ∀ {a : List Int}, a ≠ [] → (∀ x ∈ a, c ≤ x) → c ≤ minL a
  | [], h, _ => absurd rfl h
  | [x], _, h => h x (by simp)
  | x :: y :: r, _, h => by
    have h1 := h x (by simp)
    have h2 := minL_ge (a := y :: r) (by simp) fun z hz => h z (by simp [List.mem_cons.mp hz])
    simp only [minL]
    omega
theorem maxL_le {c : Int} : ∀ {a : List Int}, a ≠ [] → (∀ x ∈ a, x ≤ c) → maxL a ≤ c
  | [], h, _ => absurd rfl h
  | [x], _, h => h x (by simp)
  | x :: y :: r, _, h => by
    have h1 := h x (by simp)
    have h2 := maxL_le (a := y :: r) (by simp) fun z hz => h z (by simp [List.mem_cons.mp hz])
    simp only [maxL]
    omega
theorem add_il1 {a : List Int} {x : Int} (h : a.length < line) : binD .add (il a) (.list [.int x]) = some (il (a ++ [x])) := by
  have h2 : a.length + 1 ≤ line := h
  simp [binD, il, h2]
theorem add_il {a b : List Int} (h : a.length + b.length ≤ line) : binD .add (il a) (il b) = some (il (a ++ b)) := by
  simp [binD, il, h]
theorem sub_il {a : List Int} {i : Nat} (h : i < a.length) : subD (il a) (.int (i : Int)) = some (.int (a.getD i 0)) := by
  simp [subD, il, atD, at_il h]
theorem sub_il0 (x : Int) (a : List Int) : subD (il (x :: a)) (.int 0) = some (.int x) := by
  simp [subD, il, atD, atI_zero]
theorem sub_end (a : List Int) (x : Int) : subD (il (a ++ [x])) (.int (-1)) = some (.int x) := by
  simp [subD, il, atD, atI_end]
theorem ne_il (a b : List Int) : cmpD .ne (il a) (il b) = some (!decide (a = b)) := by
  simp only [cmpD, shaped_il, Bool.and_self, if_true, eqv_il]
theorem eq_il (a b : List Int) : cmpD .eq (il a) (il b) = some (decide (a = b)) := by
  simp only [cmpD, shaped_il, Bool.and_self, if_true, eqv_il]
theorem ne_int (a b : Int) : cmpD .ne (.int a) (.int b) = some (!decide (a = b)) := by
  simp only [cmpD, shaped_int, Bool.and_self, if_true, eqv_int]
theorem eq_int (a b : Int) : cmpD .eq (.int a) (.int b) = some (decide (a = b)) := by
  simp only [cmpD, shaped_int, Bool.and_self, if_true, eqv_int]
theorem sortR_il (a : List Int) (h : a.Pairwise (fun x y => y ≤ x)) : sortR a = a := by
  unfold sortR
  exact List.mergeSort_of_pairwise (by simpa using h)
theorem ev_srev {a : List Int} {c : C} {st st1 : DS} (h : evC c st = some (il a, st1)) : evC (.srev c) st = some (il (sortR a), st1) := by
  rw [evC, h]
  simp only [Option.bind_some, il, intsD_map, Option.map_some]
theorem evI_il {a : List Int} {c : C} {st st1 : DS} (h : evC c st = some (il a, st1)) : evI (.seq c) st = some (a.map .int, st1) := by
  rw [evI, h]
  simp only [Option.bind_some, il]
def RetS (b : S) (st : DS) (d : D) : Prop := ∃ st', evS b st = some (.ret d st')
theorem RetS.seq {a b : S} {st st1 : DS} {d : D} (h : evS a st = some (.nx st1)) (h2 : RetS b st1 d) : RetS (.seq a b) st d := by
  obtain ⟨st2, h2⟩ := h2
  exact ⟨st2, by rw [evS, h]; exact h2⟩
theorem RetS.ret {c : C} {b : S} {st : DS} {d : D} (h : ∃ st1, evC c st = some (d, st1)) : RetS (.seq (.ret c) b) st d := by
  obtain ⟨st1, h⟩ := h
  exact ⟨st1, by rw [evS, evS, h]; rfl⟩
theorem RetS.if1 {c : C} {a b e : S} {st st1 : DS} {d : D} (h : evC c st = some (.bool true, st1)) (h2 : RetS a st1 d) : RetS (.seq (.ife c a b) e) st d := by
  obtain ⟨st2, h2⟩ := h2
  exact ⟨st2, by rw [evS, evS, h]; simp only [Option.bind_some, h2]⟩
theorem RetS.if0 {c : C} {a e : S} {st st1 : DS} {d : D} (h : evC c st = some (.bool false, st1)) (h2 : RetS e st1 d) : RetS (.seq (.ife c a .nop) e) st d := by
  obtain ⟨st2, h2⟩ := h2
  exact ⟨st2, by rw [evS, evS, h]; simp only [Option.bind_some, evS, h2]⟩
theorem fnD_ret {n m : Nat} {b : S} {ds : List D} {d : D} (hm : ds.length = m) (h : RetS b (startS n (ds.map .sh)) d) : fnD n m b ds = some d := by
  obtain ⟨st, h⟩ := h
  unfold fnD
  rw [if_pos hm, h]
theorem bind2 {i j : Nat} {a b : D} {st : DS} (h : i < st.length) (h2 : j < st.length) : bindT (.tp (.cons (.nm i) (.cons (.nm j) .nil))) (.tuple [a, b]) st = some ((st.set i (.sh a)).set j (.sh b)) := by
  have h3 : j < (st.set i (.sh a)).length := by rw [List.length_set]; exact h2
  rw [bindT, bindT.bindTs, bindT, if_pos h]
  simp only [Option.bind_some]
  rw [bindT.bindTs, bindT, if_pos h3]
  simp only [Option.bind_some]
  rw [bindT.bindTs]
theorem bind3 {i j k : Nat} {a b c : D} {st : DS} (h : i < st.length) (h2 : j < st.length) (h3 : k < st.length) : bindT (.tp (.cons (.nm i) (.cons (.nm j) (.cons (.nm k) .nil)))) (.tuple [a, b, c]) st = some (((st.set i (.sh a)).set j (.sh b)).set k (.sh c)) := by
  have h4 : j < (st.set i (.sh a)).length := by rw [List.length_set]; exact h2
  have h5 : k < ((st.set i (.sh a)).set j (.sh b)).length := by rw [List.length_set, List.length_set]; exact h3
  rw [bindT, bindT.bindTs, bindT, if_pos h]
  simp only [Option.bind_some]
  rw [bindT.bindTs, bindT, if_pos h4]
  simp only [Option.bind_some]
  rw [bindT.bindTs, bindT, if_pos h5]
  simp only [Option.bind_some]
  rw [bindT.bindTs]
theorem int_bool (b : Bool) : bltD .int [.bool b] = some (.int (if b then 1 else 0)) := rfl
theorem ad_int (i j : Int) : binD .add (.int i) (.int j) = some (.int (i + j)) := rfl
theorem sb_int (i j : Int) : binD .sub (.int i) (.int j) = some (.int (i - j)) := rfl
theorem lt_int (i j : Int) : cmpD .lt (.int i) (.int j) = some (decide (i < j)) := rfl
theorem le_int (i j : Int) : cmpD .le (.int i) (.int j) = some (decide (i ≤ j)) := rfl
theorem gt_int (i j : Int) : cmpD .gt (.int i) (.int j) = some (decide (j < i)) := rfl
theorem ge_int (i j : Int) : cmpD .ge (.int i) (.int j) = some (decide (j ≤ i)) := rfl
theorem tup3_0 (a b c : D) : subD (.tuple [a, b, c]) (.int 0) = some a := by simp [subD, atD, atI_zero]
theorem tup3_1 (a b c : D) : subD (.tuple [a, b, c]) (.int 1) = some b := by simp [subD, atD, atI_one]
theorem tup3_2 (a b c : D) : subD (.tuple [a, b, c]) (.int 2) = some c := by simp [subD, atD, atI_two]
theorem lst3_0 (a b c : D) : subD (.list [a, b, c]) (.int 0) = some a := by simp [subD, atD, atI_zero]
theorem lst3_1 (a b c : D) : subD (.list [a, b, c]) (.int 1) = some b := by simp [subD, atD, atI_one]
theorem lst3_2 (a b c : D) : subD (.list [a, b, c]) (.int 2) = some c := by simp [subD, atD, atI_two]
theorem zip_get {a b : List Int} (h : a.length = b.length) : (List.range a.length).map (fun i => a.getD i 0 - b.getD i 0) = List.zipWith (fun x y => x - y) a b := by
  apply List.ext_getElem
  · simp; omega
  · intro i h1 h2
    simp only [List.length_map, List.length_range] at h1
    have h3 : i < b.length := by omega
    simp [h1, h3]
theorem evS_seqR {a b : S} {st st1 : DS} {R : Option Out} (h : evS a st = some (.nx st1)) (h2 : evS b st1 = R) : evS (.seq a b) st = R := by
  rw [evS, h]
  exact h2
theorem evS_if0R {c : C} {a e : S} {st st1 : DS} {R : Option Out} (h : evC c st = some (.bool false, st1)) (h2 : evS e st1 = R) : evS (.seq (.ife c a .nop) e) st = R := by
  rw [evS, evS, h]
  simp only [Option.bind_some, evS, h2]
theorem fnRO_ret {n : Nat} {b : S} {ns : List Int} {d : D} {st : DS} (h : evS b (startS n (.ro ns :: ([] : List D).map .sh)) = some (.ret d st)) : fnRO n 1 b ns [] = some d := by
  unfold fnRO
  rw [if_pos (show ([] : List D).length + 1 = 1 from rfl), h]
theorem pow11 : binD .pow (.int 10) (.int 11) = some (.int 100000000000) := by
  simp [binD, ib10]
theorem pick2 {a b r : Int} (hr : 0 ≤ r) (hr2 : r < 2) : ∃ x : Int, subD (.list [.int a, .int b]) (.int r) = some (.int x) ∧ (x = a ∨ x = b) := by
  rcases (show r = 0 ∨ r = 1 by omega) with rfl | rfl
  · exact ⟨a, by simp [subD, atD, atI_zero], .inl rfl⟩
  · exact ⟨b, by simp [subD, atD, atI_one], .inr rfl⟩
/-- the law's own loop over its cells -/
theorem law_top {n : Nat} {Y : S} {it : C} {ns : List Int} (hi : ∀ st, st[0]? = some (.ro ns) → ∃ m : Nat, m ≤ 1000 ∧ evI it st = some ((List.range m).map fun (i : Nat) => .int (i : Int), st)) (hn : 2 ≤ n)
    (hs : ∀ (k : Nat) (tl : DS), k ≤ 1000 → tl.length = n - 2 → ∃ tl' : DS, tl'.length = n - 2 ∧ evS Y (.ro ns :: .sh (.int k) :: tl) = some (.nx (.ro ns :: .sh (.int k) :: tl'))) :
    fnRO n 1 (.seq (.forr (.nm 1) it Y) (.seq (.ret (.lit (.bool true))) .nop)) ns [] = some (.bool true) := by
  obtain ⟨m, hm, e1⟩ := hi (startS n (.ro ns :: ([] : List D).map .sh)) (by simp [startS])
  obtain ⟨st, e, x1, tl, rfl, h1, _⟩ := floop_inv (fun d st1 => (bindT (.nm 1) d st1).bind fun st2 => evS Y st2)
    (fun r st => ∃ x1 tl, st = .ro ns :: x1 :: tl ∧ tl.length = n - 2 ∧ ∀ d ∈ r, ∃ k : Nat, k ≤ 1000 ∧ d = .int k)
    ((List.range m).map fun (i : Nat) => .int (i : Int)) (startS n (.ro ns :: ([] : List D).map .sh))
    ⟨.emp, List.replicate (n - 2) .emp, by
      obtain ⟨j, rfl⟩ : ∃ j, n = j + 2 := ⟨n - 2, by omega⟩
      rfl, by simp, fun d hd => by
      simp only [List.mem_map, List.mem_range] at hd
      obtain ⟨i, hi, rfl⟩ := hd
      exact ⟨i, by omega, rfl⟩⟩ (by
      rintro d r s ⟨x1, tl, rfl, h2, hd⟩
      obtain ⟨k, hk, rfl⟩ := hd d (by simp)
      obtain ⟨tl', h3, ee⟩ := hs k tl hk h2
      refine ⟨_, .inl ?_, .sh (.int k), tl', rfl, h3, fun d hd2 => hd d (by simp [hd2])⟩
      exact ee)
  refine fnRO_ret (st := .ro ns :: x1 :: tl) ?_
  refine evS_seqR (st1 := .ro ns :: x1 :: tl) ?_ ?_
  · rw [evS_forr, e1]
    exact e
  · simp [evS, evC]
theorem cells {ns : List Int} (st : DS) (h : st[0]? = some (.ro ns)) : ∃ m : Nat, m ≤ 1000 ∧ evI (.rng (.acons (.blt .max (.acons (.lit (.int 1)) (.acons (.blt .min (.acons (.lit (.int 4)) (.acons (.lenR 0) .anil))) .anil))) .anil)) st = some ((List.range m).map fun (i : Nat) => .int (i : Int), st) := by
  refine ⟨(if (if (ns.length : Int) < 4 then (ns.length : Int) else 4) > 1 then (if (ns.length : Int) < 4 then (ns.length : Int) else 4) else 1).toNat, by (repeat' split) <;> omega, ?_⟩
  refine evI_rng1 ?_ (inR_mk (by split <;> omega) (by (repeat' split) <;> omega))
  simp [evC, evA, roS, bltD, h]
end Sm

set_option Elab.async false
set_option linter.all false
set_option maxRecDepth 100000
set_option maxHeartbeats 4000000
namespace Sm
open PySem PySem.Spec PyProof.Rows L2
/-! ### vessels -/
def mn (a b : Int) : Int := if b < a then b else a
def pF : List Int → List Int → Int → List Int
  | c :: cs, b :: bs, d => (c + mn d (b - c)) :: pF cs bs (d - mn d (b - c))
  | _, _, _ => []
def pO : List Int → List Int → Int → List Int
  | c :: cs, b :: bs, d => (d - mn d (b - c)) :: pO cs bs (d - mn d (b - c))
  | _, _, _ => []
def dF : List Int → Int → List Int
  | c :: cs, d => (c - mn d c) :: dF cs (d - mn d c)
  | _, _ => []
def dS : List Int → Int → List Int
  | c :: cs, d => (d - mn d c) :: dS cs (d - mn d c)
  | _, _ => []
theorem min2 (i j : Int) : bltD .min [.int i, .int j] = some (.int (mn i j)) := rfl
theorem max2 (i j : Int) : bltD .max [.int i, .int j] = some (.int (if j > i then j else i)) := rfl
theorem pour_step {x0 x1 x7 : Sl} {d c b : Int} {f o : List Int} (hf : f.length < line) (ho : o.length < line) : evS Y1_poured [x0, x1, .sh (.int d), .ow (f.map .int), .ow (o.map .int), .sh (.int c), .sh (.int b), x7] = some (.nx [x0, x1, .sh (.int (d - mn d (b - c))), .ow ((f ++ [c + mn d (b - c)]).map .int), .ow ((o ++ [d - mn d (b - c)]).map .int), .sh (.int c), .sh (.int b), .sh (.int (mn d (b - c)))]) := by
  unfold Y1_poured
  refine evS_seqR (by simp [-getElem?_pos, List.getElem?_cons_zero, List.getElem?_cons_succ, evS, evC, evA, bindT, sb_int, min2]; rfl) ?_
  refine evS_seqR (by simp [-getElem?_pos, List.getElem?_cons_zero, List.getElem?_cons_succ, evS, evC]; rfl) ?_
  refine evS_seqR (by simp [-getElem?_pos, List.getElem?_cons_zero, List.getElem?_cons_succ, evS, evC, ownS, ad_int, hf]; rfl) ?_
  refine evS_seqR (by simp [-getElem?_pos, List.getElem?_cons_zero, List.getElem?_cons_succ, evS, evC, ownS, ho]; rfl) ?_
  rw [evS]
  simp
theorem pour_loop {x0 x1 : Sl} : ∀ (cs bs : List Int) (d : Int) (f o : List Int) (x5 x6 x7 : Sl), f.length + cs.length ≤ line → o.length + cs.length ≤ line → ∃ y2 y5 y6 y7, floop (fun d st1 => (bindT (.tp (.cons (.nm 5) (.cons (.nm 6) .nil))) d st1).bind fun st2 => evS Y1_poured st2) (zipD (cs.map .int) (bs.map .int)) [x0, x1, .sh (.int d), .ow (f.map .int), .ow (o.map .int), x5, x6, x7] = some (.nx [x0, x1, y2, .ow ((f ++ pF cs bs d).map .int), .ow ((o ++ pO cs bs d).map .int), y5, y6, y7])
  | [], bs, d, f, o, x5, x6, x7, _, _ => ⟨_, x5, x6, x7, by rw [List.map_nil, zipD, floop, pF, pO, List.append_nil, List.append_nil] <;> simp⟩
  | c :: cs, [], d, f, o, x5, x6, x7, _, _ => ⟨_, x5, x6, x7, by rw [List.map_nil, zipD, floop, pF, pO, List.append_nil, List.append_nil] <;> simp⟩
  | c :: cs, b :: bs, d, f, o, x5, x6, x7, hf, ho => by
    rw [List.length_cons] at hf ho
    obtain ⟨y2, y5, y6, y7, e⟩ := pour_loop (x0 := x0) (x1 := x1) cs bs (d - mn d (b - c)) (f ++ [c + mn d (b - c)]) (o ++ [d - mn d (b - c)]) (.sh (.int c)) (.sh (.int b)) (.sh (.int (mn d (b - c)))) (by rw [List.length_append, List.length_singleton]; omega) (by rw [List.length_append, List.length_singleton]; omega)
    refine ⟨y2, y5, y6, y7, ?_⟩
    have hb : ((bindT (.tp (.cons (.nm 5) (.cons (.nm 6) .nil))) (.tuple [.int c, .int b]) [x0, x1, .sh (.int d), .ow (f.map .int), .ow (o.map .int), x5, x6, x7]).bind fun st2 => evS Y1_poured st2) = evS Y1_poured [x0, x1, .sh (.int d), .ow (f.map .int), .ow (o.map .int), .sh (.int c), .sh (.int b), x7] := rfl
    rw [List.map_cons, List.map_cons, zipD, floop, hb, pour_step (by omega) (by omega)]
    simp only
    rw [e, pF, pO, List.append_assoc, List.append_assoc]
    rfl
theorem evI_zip2 {a b : C} {st st1 st2 : DS} {l m : List Int} (h : evC a st = some (il l, st1)) (h2 : evC b st1 = some (il m, st2)) : evI (.zip a b) st = some (zipD (l.map .int) (m.map .int), st2) := by
  rw [evI, h]
  simp only [Option.bind_some, h2, il]
theorem poured_ok (cs bs : List Int) (d : Int) (h : cs.length ≤ line) : F_poured [il cs, il bs, .int d] = some (.tuple [il (pF cs bs d), il (pO cs bs d)]) := by
  obtain ⟨y2, y5, y6, y7, e⟩ := pour_loop (x0 := .sh (il cs)) (x1 := .sh (il bs)) cs bs d [] [] .emp .emp .emp (by simpa using h) (by simpa using h)
  have w : evS W1_poured [.sh (il cs), .sh (il bs), .sh (.int d), .ow [], .ow [], .emp, .emp, .emp] = some (.nx [.sh (il cs), .sh (il bs), y2, .ow ((pF cs bs d).map .int), .ow ((pO cs bs d).map .int), y5, y6, y7]) := by
    unfold W1_poured
    rw [evS_forr, evI_zip2 (l := cs) (m := bs) (st1 := [.sh (il cs), .sh (il bs), .sh (.int d), .ow [], .ow [], .emp, .emp, .emp]) (st2 := [.sh (il cs), .sh (il bs), .sh (.int d), .ow [], .ow [], .emp, .emp, .emp]) (by simp [evC]) (by simp [evC])]
    exact e
  refine fnD_ret rfl ?_
  unfold B_poured
  refine .seq (by simp [startS, evS, evC, evA, line, freshC]; rfl) ?_
  refine .seq (by simp [evS, evC, evA, line, freshC]; rfl) ?_
  refine .seq w ?_
  refine .ret ?_
  simp [-getElem?_pos, List.getElem?_cons_zero, List.getElem?_cons_succ, evC, evA, line, il]
theorem draw_step {x0 x5 : Sl} {d c : Int} {f o : List Int} (hf : f.length < line) (ho : o.length < line) : evS Y1_drawn [x0, .sh (.int d), .ow (f.map .int), .ow (o.map .int), .sh (.int c), x5] = some (.nx [x0, .sh (.int (d - mn d c)), .ow ((f ++ [c - mn d c]).map .int), .ow ((o ++ [d - mn d c]).map .int), .sh (.int c), .sh (.int (mn d c))]) := by
  unfold Y1_drawn
  refine evS_seqR (by simp [-getElem?_pos, List.getElem?_cons_zero, List.getElem?_cons_succ, evS, evC, evA, bindT, min2]; rfl) ?_
  refine evS_seqR (by simp [-getElem?_pos, List.getElem?_cons_zero, List.getElem?_cons_succ, evS, evC]; rfl) ?_
  refine evS_seqR (by simp [-getElem?_pos, List.getElem?_cons_zero, List.getElem?_cons_succ, evS, evC, ownS, sb_int, hf]; rfl) ?_
  refine evS_seqR (by simp [-getElem?_pos, List.getElem?_cons_zero, List.getElem?_cons_succ, evS, evC, ownS, ho]; rfl) ?_
  rw [evS]
  simp
theorem draw_loop {x0 : Sl} : ∀ (cs : List Int) (d : Int) (f o : List Int) (x4 x5 : Sl), f.length + cs.length ≤ line → o.length + cs.length ≤ line → ∃ y1 y4 y5, floop (fun d st1 => (bindT (.nm 4) d st1).bind fun st2 => evS Y1_drawn st2) (cs.map .int) [x0, .sh (.int d), .ow (f.map .int), .ow (o.map .int), x4, x5] = some (.nx [x0, y1, .ow ((f ++ dF cs d).map .int), .ow ((o ++ dS cs d).map .int), y4, y5])
  | [], d, f, o, x4, x5, _, _ => ⟨_, x4, x5, by rw [List.map_nil, floop, dF, dS, List.append_nil, List.append_nil] <;> simp⟩
  | c :: cs, d, f, o, x4, x5, hf, ho => by
    rw [List.length_cons] at hf ho
    obtain ⟨y1, y4, y5, e⟩ := draw_loop (x0 := x0) cs (d - mn d c) (f ++ [c - mn d c]) (o ++ [d - mn d c]) (.sh (.int c)) (.sh (.int (mn d c))) (by rw [List.length_append, List.length_singleton]; omega) (by rw [List.length_append, List.length_singleton]; omega)
    refine ⟨y1, y4, y5, ?_⟩
    have hb : ((bindT (.nm 4) (.int c) [x0, .sh (.int d), .ow (f.map .int), .ow (o.map .int), x4, x5]).bind fun st2 => evS Y1_drawn st2) = evS Y1_drawn [x0, .sh (.int d), .ow (f.map .int), .ow (o.map .int), .sh (.int c), x5] := rfl
    rw [List.map_cons, floop, hb, draw_step (by omega) (by omega)]
    simp only
    rw [e, dF, dS, List.append_assoc, List.append_assoc]
    rfl
theorem drawn_ok (cs : List Int) (d : Int) (h : cs.length ≤ line) : F_drawn [il cs, .int d] = some (.tuple [il (dF cs d), il (dS cs d)]) := by
  obtain ⟨y1, y4, y5, e⟩ := draw_loop (x0 := .sh (il cs)) cs d [] [] .emp .emp (by simpa using h) (by simpa using h)
  have w : evS W1_drawn [.sh (il cs), .sh (.int d), .ow [], .ow [], .emp, .emp] = some (.nx [.sh (il cs), y1, .ow ((dF cs d).map .int), .ow ((dS cs d).map .int), y4, y5]) := by
    unfold W1_drawn
    rw [evS_forr, evI_il (a := cs) (st1 := [.sh (il cs), .sh (.int d), .ow [], .ow [], .emp, .emp]) (by simp [evC])]
    exact e
  refine fnD_ret rfl ?_
  unfold B_drawn
  refine .seq (by simp [startS, evS, evC, evA, line, freshC]; rfl) ?_
  refine .seq (by simp [evS, evC, evA, line, freshC]; rfl) ?_
  refine .seq w ?_
  refine .ret ?_
  simp [-getElem?_pos, List.getElem?_cons_zero, List.getElem?_cons_succ, evC, evA, line, il]
end Sm

set_option Elab.async false
set_option linter.all false
set_option maxRecDepth 100000
set_option maxHeartbeats 4000000
namespace Sm
open PySem PySem.Spec PyProof.Rows L2
/-! ### the vessels' mathematics -/
def Fit : List Int → List Int → Prop
  | [], [] => True
  | c :: cs, b :: bs => 0 ≤ c ∧ c ≤ b ∧ Fit cs bs
  | _, _ => False
theorem fit_len : ∀ {cs bs : List Int}, Fit cs bs → cs.length = bs.length
  | [], [], _ => rfl
  | [], _ :: _, h => h.elim
  | _ :: _, [], h => h.elim
  | c :: cs, b :: bs, h => by
    have := fit_len h.2.2
    simp [this]
theorem fit_take : ∀ {cs bs : List Int} (m : Nat), Fit cs bs → 0 ≤ (cs.take m).sum ∧ (cs.take m).sum ≤ (bs.take m).sum
  | cs, bs, 0, _ => by simp
  | [], [], m + 1, _ => by simp
  | [], _ :: _, m + 1, h => h.elim
  | _ :: _, [], m + 1, h => h.elim
  | c :: cs, b :: bs, m + 1, h => by
    have := fit_take m h.2.2
    obtain ⟨h1, h2, _⟩ := h
    rw [List.take_succ_cons, List.take_succ_cons, List.sum_cons, List.sum_cons]
    omega
theorem mn_cases (a b : Int) : (mn a b = a ∧ a ≤ b) ∨ (mn a b = b ∧ b < a) := by
  unfold mn
  by_cases h : b < a
  · rw [if_pos h]; exact .inr ⟨rfl, h⟩
  · rw [if_neg h]; exact .inl ⟨rfl, by omega⟩
def upto (B x : Int) : Int := if x > B then B else x
def over (B x : Int) : Int := if x > B then x - B else 0
theorem pour_take : ∀ {cs bs : List Int} {d : Int} (m : Nat), Fit cs bs → 0 ≤ d → ((pF cs bs d).take m).sum = upto (bs.take m).sum ((cs.take m).sum + d)
  | cs, bs, d, 0, _, hd => by
    simp only [List.take_zero, List.sum_nil]
    unfold upto
    split <;> omega
  | [], [], d, m + 1, _, hd => by
    simp only [pF, List.take_nil, List.sum_nil]
    unfold upto
    split <;> omega
  | [], _ :: _, d, m + 1, h, _ => h.elim
  | _ :: _, [], d, m + 1, h, _ => h.elim
  | c :: cs, b :: bs, d, m + 1, h, hd => by
    have f := fit_take m h.2.2
    obtain ⟨h1, h2, h3⟩ := h
    have ih := pour_take (d := d - mn d (b - c)) m h3 (by rcases mn_cases d (b - c) with w | w <;> omega)
    rw [pF, List.take_succ_cons, List.take_succ_cons, List.take_succ_cons, List.sum_cons, List.sum_cons, List.sum_cons, ih]
    unfold upto
    rcases mn_cases d (b - c) with ⟨w, w2⟩ | ⟨w, w2⟩ <;> rw [w] <;> (repeat' split) <;> omega
theorem pour_over : ∀ {cs bs : List Int} {d : Int} (m : Nat), Fit cs bs → 0 ≤ d → m < cs.length → (pO cs bs d).getD m 0 = over (bs.take (m + 1)).sum ((cs.take (m + 1)).sum + d)
  | [], _, d, m, _, _, hm => absurd hm (by simp)
  | _ :: _, [], d, m, h, _, _ => h.elim
  | c :: cs, b :: bs, d, 0, h, hd, _ => by
    obtain ⟨h1, h2, h3⟩ := h
    rw [pO]
    simp only [List.getD_cons_zero, List.take_succ_cons, List.take_zero, List.sum_cons, List.sum_nil]
    unfold over
    rcases mn_cases d (b - c) with ⟨w, w2⟩ | ⟨w, w2⟩ <;> rw [w] <;> (repeat' split) <;> omega
  | c :: cs, b :: bs, d, m + 1, h, hd, hm => by
    have f := fit_take (m + 1) h.2.2
    obtain ⟨h1, h2, h3⟩ := h
    have ih := pour_over (d := d - mn d (b - c)) m h3 (by rcases mn_cases d (b - c) with w | w <;> omega) (by simpa using hm)
    rw [pO, List.getD_cons_succ, ih, List.take_succ_cons, List.take_succ_cons, List.sum_cons, List.sum_cons]
    unfold over
    rcases mn_cases d (b - c) with ⟨w, w2⟩ | ⟨w, w2⟩ <;> rw [w] <;> (repeat' split) <;> omega
theorem pour_fit : ∀ {cs bs : List Int} {d : Int}, Fit cs bs → 0 ≤ d → Fit (pF cs bs d) bs
  | [], [], d, _, _ => trivial
  | [], _ :: _, d, h, _ => h.elim
  | _ :: _, [], d, h, _ => h.elim
  | c :: cs, b :: bs, d, h, hd => by
    obtain ⟨h1, h2, h3⟩ := h
    have w := mn_cases d (b - c)
    exact ⟨by omega, by omega, pour_fit h3 (by omega)⟩
theorem pour_sorted : ∀ {cs bs : List Int} {d : Int}, Fit cs bs → 0 ≤ d → (∀ x ∈ pO cs bs d, x ≤ d) ∧ (pO cs bs d).Pairwise (fun x y => y ≤ x)
  | [], [], d, _, _ => by simp [pO]
  | [], _ :: _, d, h, _ => h.elim
  | _ :: _, [], d, h, _ => h.elim
  | c :: cs, b :: bs, d, h, hd => by
    obtain ⟨h1, h2, h3⟩ := h
    have w := mn_cases d (b - c)
    obtain ⟨i1, i2⟩ := pour_sorted (d := d - mn d (b - c)) h3 (by omega)
    rw [pO]
    refine ⟨fun x hx => ?_, List.pairwise_cons.mpr ⟨i1, i2⟩⟩
    rcases List.mem_cons.mp hx with e | hx
    · omega
    · have := i1 x hx
      omega
def dwn (x : Int) : Int := if x < 0 then 0 else x
def lck (x : Int) : Int := if x < 0 then -x else 0
theorem draw_take : ∀ {cs bs : List Int} {d : Int} (m : Nat), Fit cs bs → 0 ≤ d → ((dF cs d).take m).sum = dwn ((cs.take m).sum - d)
  | cs, bs, d, 0, _, hd => by
    simp only [List.take_zero, List.sum_nil]
    unfold dwn
    split <;> omega
  | [], [], d, m + 1, _, hd => by
    simp only [dF, List.take_nil, List.sum_nil]
    unfold dwn
    split <;> omega
  | [], _ :: _, d, m + 1, h, _ => h.elim
  | _ :: _, [], d, m + 1, h, _ => h.elim
  | c :: cs, b :: bs, d, m + 1, h, hd => by
    have f := fit_take m h.2.2
    obtain ⟨h1, h2, h3⟩ := h
    have ih := draw_take (d := d - mn d c) m h3 (by rcases mn_cases d c with w | w <;> omega)
    rw [dF, List.take_succ_cons, List.take_succ_cons, List.sum_cons, List.sum_cons, ih]
    unfold dwn
    rcases mn_cases d c with ⟨w, w2⟩ | ⟨w, w2⟩ <;> rw [w] <;> (repeat' split) <;> omega
theorem draw_lack : ∀ {cs bs : List Int} {d : Int} (m : Nat), Fit cs bs → 0 ≤ d → m < cs.length → (dS cs d).getD m 0 = lck ((cs.take (m + 1)).sum - d)
  | [], _, d, m, _, _, hm => absurd hm (by simp)
  | _ :: _, [], d, m, h, _, _ => h.elim
  | c :: cs, b :: bs, d, 0, h, hd, _ => by
    obtain ⟨h1, h2, h3⟩ := h
    rw [dS]
    simp only [List.getD_cons_zero, List.take_succ_cons, List.take_zero, List.sum_cons, List.sum_nil]
    unfold lck
    rcases mn_cases d c with ⟨w, w2⟩ | ⟨w, w2⟩ <;> rw [w] <;> (repeat' split) <;> omega
  | c :: cs, b :: bs, d, m + 1, h, hd, hm => by
    have f := fit_take (m + 1) h.2.2
    obtain ⟨h1, h2, h3⟩ := h
    have ih := draw_lack (d := d - mn d c) m h3 (by rcases mn_cases d c with w | w <;> omega) (by simpa using hm)
    rw [dS, List.getD_cons_succ, ih, List.take_succ_cons, List.sum_cons]
    unfold lck
    rcases mn_cases d c with ⟨w, w2⟩ | ⟨w, w2⟩ <;> rw [w] <;> (repeat' split) <;> omega
theorem draw_fit : ∀ {cs bs : List Int} {d : Int}, Fit cs bs → 0 ≤ d → Fit (dF cs d) bs
  | [], [], d, _, _ => trivial
  | [], _ :: _, d, h, _ => h.elim
  | _ :: _, [], d, h, _ => h.elim
  | c :: cs, b :: bs, d, h, hd => by
    obtain ⟨h1, h2, h3⟩ := h
    have w := mn_cases d c
    exact ⟨by omega, by omega, draw_fit h3 (by omega)⟩
theorem draw_sorted : ∀ {cs bs : List Int} {d : Int}, Fit cs bs → 0 ≤ d → (∀ x ∈ dS cs d, x ≤ d) ∧ (dS cs d).Pairwise (fun x y => y ≤ x)
  | [], [], d, _, _ => by simp [dS]
  | [], _ :: _, d, h, _ => h.elim
  | _ :: _, [], d, h, _ => h.elim
  | c :: cs, b :: bs, d, h, hd => by
    obtain ⟨h1, h2, h3⟩ := h
    have w := mn_cases d c
    obtain ⟨i1, i2⟩ := draw_sorted (d := d - mn d c) h3 (by omega)
    rw [dS]
    refine ⟨fun x hx => ?_, List.pairwise_cons.mpr ⟨i1, i2⟩⟩
    rcases List.mem_cons.mp hx with e | hx
    · omega
    · have := i1 x hx
      omega
/-! ### all days -/
def zs (n : Nat) : List Int := List.replicate n 0
def stF (bs cs : List Int) (d : Int) : List Int := if 0 < d then pF cs bs d else dF cs (-d)
def stO (bs cs : List Int) (d : Int) : List Int := if 0 < d then pO cs bs d else zs bs.length
def stS (bs cs : List Int) (d : Int) : List Int := if 0 < d then zs bs.length else dS cs (-d)
def tl (bs : List Int) : List Int → List Int → List (List Int × List Int × List Int)
  | _, [] => []
  | cs, d :: r => (stF bs cs d, stO bs cs d, stS bs cs d) :: tl bs (stF bs cs d) r
theorem st_fit {bs cs : List Int} {d : Int} (h : Fit cs bs) : Fit (stF bs cs d) bs := by
  unfold stF
  split
  · exact pour_fit h (by omega)
  · exact draw_fit h (by omega)
theorem st_take {bs cs : List Int} {d : Int} (m : Nat) (h : Fit cs bs) : ((stF bs cs d).take m).sum = nxt (bs.take m).sum (cs.take m).sum d := by
  have f := fit_take m h
  unfold stF
  split
  · rw [pour_take m h (by omega)]
    unfold upto nxt
    (repeat' split) <;> omega
  · rw [draw_take m h (by omega)]
    unfold dwn nxt
    (repeat' split) <;> omega
theorem zs_get (n m : Nat) : (zs n).getD m 0 = 0 := by
  unfold zs
  simp [List.getD_eq_getElem?_getD, List.getElem?_replicate]
  split <;> rfl
theorem st_over {bs cs : List Int} {d : Int} (m : Nat) (h : Fit cs bs) (hm : m < cs.length) : (stO bs cs d).getD m 0 = ovr (bs.take (m + 1)).sum (cs.take (m + 1)).sum d := by
  have f := fit_take (m + 1) h
  unfold stO
  split
  · rw [pour_over m h (by omega) hm]
    unfold over ovr
    (repeat' split) <;> omega
  · rw [zs_get]
    unfold ovr
    (repeat' split) <;> omega
theorem st_lack {bs cs : List Int} {d : Int} (m : Nat) (h : Fit cs bs) (hm : m < cs.length) : (stS bs cs d).getD m 0 = sht (bs.take (m + 1)).sum (cs.take (m + 1)).sum d := by
  have f := fit_take (m + 1) h
  unfold stS
  split
  · rw [zs_get]
    unfold sht
    (repeat' split) <;> omega
  · rw [draw_lack m h (by omega) hm]
    unfold lck sht
    (repeat' split) <;> omega
theorem tl_take {bs : List Int} (m : Nat) : ∀ (l cs : List Int), Fit cs bs → (tl bs cs l).map (fun t => (t.1.take m).sum) = cts (bs.take m).sum (cs.take m).sum l
  | [], cs, _ => rfl
  | d :: r, cs, h => by
    rw [tl, List.map_cons, cts, tl_take m r _ (st_fit h), st_take m h]
theorem tl_over {bs : List Int} (m : Nat) (hm : m < bs.length) : ∀ (l cs : List Int), Fit cs bs → (tl bs cs l).map (fun t => t.2.1.getD m 0) = ovs (bs.take (m + 1)).sum (cs.take (m + 1)).sum l
  | [], cs, _ => rfl
  | d :: r, cs, h => by
    rw [tl, List.map_cons, ovs, tl_over m hm r _ (st_fit h), st_over m h (by rw [fit_len h]; exact hm), st_take (m + 1) h]
theorem tl_lack {bs : List Int} (m : Nat) (hm : m < bs.length) : ∀ (l cs : List Int), Fit cs bs → (tl bs cs l).map (fun t => t.2.2.getD m 0) = shs (bs.take (m + 1)).sum (cs.take (m + 1)).sum l
  | [], cs, _ => rfl
  | d :: r, cs, h => by
    rw [tl, List.map_cons, shs, tl_lack m hm r _ (st_fit h), st_lack m h (by rw [fit_len h]; exact hm), st_take (m + 1) h]
theorem zs_sorted (n : Nat) : (zs n).Pairwise (fun x y => y ≤ x) := List.pairwise_replicate.mpr (.inr (by omega))
theorem tl_all {bs : List Int} : ∀ (l cs : List Int), Fit cs bs → ∀ t ∈ tl bs cs l, Fit t.1 bs ∧ t.2.1.length = bs.length ∧ t.2.2.length = bs.length ∧ t.2.1.Pairwise (fun x y => y ≤ x) ∧ t.2.2.Pairwise (fun x y => y ≤ x)
  | [], cs, _, t, ht => absurd ht (by simp [tl])
  | d :: r, cs, h, t, ht => by
    rw [tl] at ht
    rcases List.mem_cons.mp ht with rfl | ht
    · have pl : ∀ {cs bs : List Int} {d : Int}, Fit cs bs → (pO cs bs d).length = bs.length := fun {cs bs d} h => by
        induction cs generalizing bs d with
        | nil => cases bs with
          | nil => rfl
          | cons b bs => exact h.elim
        | cons c cs ih => cases bs with
          | nil => exact h.elim
          | cons b bs => simp [pO, ih h.2.2]
      have dl : ∀ {cs : List Int} {d : Int}, (dS cs d).length = cs.length := fun {cs d} => by
        induction cs generalizing d with
        | nil => rfl
        | cons c cs ih => simp [dS, ih]
      refine ⟨st_fit h, ?_, ?_, ?_, ?_⟩
      · show (stO bs cs d).length = _
        unfold stO
        split
        · exact pl h
        · simp [zs]
      · show (stS bs cs d).length = _
        unfold stS
        split
        · simp [zs]
        · rw [dl, fit_len h]
      · show (stO bs cs d).Pairwise _
        unfold stO
        split
        · exact (pour_sorted h (by omega)).2
        · exact zs_sorted _
      · show (stS bs cs d).Pairwise _
        unfold stS
        split
        · exact zs_sorted _
        · exact (draw_sorted h (by omega)).2
    · exact tl_all r _ (st_fit h) t ht
theorem tl_len (bs : List Int) : ∀ (l cs : List Int), (tl bs cs l).length = l.length
  | [], _ => rfl
  | d :: r, cs => by simp [tl, tl_len bs r]
theorem take_get (a : List Int) (m : Nat) (h : m < a.length) : a.getD m 0 = (a.take (m + 1)).sum - (a.take m).sum := by
  rw [List.take_succ_eq_append_getElem h, List.sum_append, List.sum_cons, List.sum_nil]
  simp [h]
  omega
end Sm

set_option Elab.async false
set_option linter.all false
set_option maxRecDepth 100000
set_option maxHeartbeats 4000000
namespace Sm
open PySem PySem.Spec PyProof.Rows L2
/-! ### the program's vessels -/
def tD (t : List Int × List Int × List Int) : D := .tuple [il t.1, il t.2.1, il t.2.2]
theorem pF_len : ∀ {cs bs : List Int} {d : Int}, Fit cs bs → (pF cs bs d).length = cs.length
  | [], [], _, _ => rfl
  | [], _ :: _, _, h => h.elim
  | _ :: _, [], _, h => h.elim
  | c :: cs, b :: bs, d, h => by simp [pF, pF_len h.2.2]
theorem fnD_nx {n m : Nat} {b : S} {ds : List D} {st : DS} (hm : ds.length = m) (h : evS b (startS n (ds.map .sh)) = some (.nx st)) : fnD n m b ds = some .none := by
  unfold fnD
  rw [if_pos hm, h]
theorem need_caps_ok (bs : List Int) (h : ∀ b ∈ bs, 0 ≤ b) (h1 : 1 ≤ bs.length) (h2 : bs.length ≤ 12) : F_need_caps [il bs] = some .none := by
  have e1 : evC L1_need_caps [.sh (il bs), .emp] = some (.list (bs.map fun _ => .bool true), [.sh (il bs), .emp]) := by
    unfold L1_need_caps
    rw [ev_lc (st1 := [.sh (il bs), .emp]) bs .int (fun _ => .bool true) (evI_il (by simp [evC])) (by unfold line; omega) (by
      intro x hx
      have := h x hx
      simp [bindT, wipeS, evC, evA, is_amount_ok, this])]
    simp [wipeS, backS]
  have e2 : bltD .all [.list (bs.map fun _ => .bool true)] = some (.bool true) := by
    have := boolsD_map (bs.map fun _ => true)
    rw [List.map_map] at this
    have e3 : boolsD (bs.map fun _ => .bool true) = some (bs.map fun _ => true) := this
    simp [bltD, e3]
  have e4 : bltD .isList [il bs] = some (.bool true) := rfl
  have e5 := len_il bs
  have c1 : (1 : Int) ≤ (bs.length : Int) := by omega
  have c2 : (bs.length : Int) ≤ 12 := by omega
  have s1 : evS B_need_caps [.sh (il bs), .emp] = some (.nx [.sh (il bs), .emp]) := by
    unfold B_need_caps
    refine evS_if0R (by simp [evC, evA, e4, e5, le_int, c1, c2]; rfl) ?_
    refine evS_if0R (by simp [evC, evA, e1, e2]; rfl) ?_
    rw [evS]
  exact fnD_nx rfl s1
theorem list_il (a : List Int) : bltD .list [il a] = some (il a) := rfl
theorem day_step {l bs cs : List Int} {d : Int} {T : List D} {x6 x7 : Sl} (hf : Fit cs bs) (hl : bs.length ≤ line) (hT : T.length < line) : ∃ y6 y7, evS Y1_vessels [.sh (il l), .sh (il bs), .sh (il cs), .sh (il (zs bs.length)), .ow T, .sh (.int d), x6, x7] = some (.nx [.sh (il l), .sh (il bs), .sh (il (stF bs cs d)), .sh (il (zs bs.length)), .ow (T ++ [tD (stF bs cs d, stO bs cs d, stS bs cs d)]), .sh (.int d), y6, y7]) := by
  have hc : cs.length ≤ line := by rw [fit_len hf]; exact hl
  have hT2 : T.length < 16777216 := hT
  unfold Y1_vessels stF stO stS tD
  by_cases h : 0 < d
  · simp only [if_pos h]
    refine ⟨.sh (il (pO cs bs d)), x7, ?_⟩
    have p := poured_ok cs bs d hc
    refine evS_seqR (st1 := [.sh (il l), .sh (il bs), .sh (il (pF cs bs d)), .sh (il (zs bs.length)), .ow (T ++ [.tuple [il (pF cs bs d), il (pO cs bs d), il (zs bs.length)]]), .sh (.int d), .sh (il (pO cs bs d)), x7]) ?_ (by rw [evS])
    rw [evS, show evC (.cmp .gt (.var 5) (.lit (.int 0))) [.sh (il l), .sh (il bs), .sh (il cs), .sh (il (zs bs.length)), .ow T, .sh (.int d), x6, x7] = some (.bool true, [.sh (il l), .sh (il bs), .sh (il cs), .sh (il (zs bs.length)), .ow T, .sh (.int d), x6, x7]) by
      simp [-getElem?_pos, List.getElem?_cons_zero, List.getElem?_cons_succ, evC, gt_int, h]]
    simp only [Option.bind_some]
    refine evS_seqR (by simp [-getElem?_pos, List.getElem?_cons_zero, List.getElem?_cons_succ, evS, evC, evA, p, bind2]; rfl) ?_
    refine evS_seqR (by simp [-getElem?_pos, List.getElem?_cons_zero, List.getElem?_cons_succ, evS, evC, evA, ownS, list_il, line, hT2]; rfl) ?_
    rw [evS]
  · simp only [if_neg h]
    refine ⟨x6, .sh (il (dS cs (-d))), ?_⟩
    have p := drawn_ok cs (-d) hc
    refine evS_seqR (st1 := [.sh (il l), .sh (il bs), .sh (il (dF cs (-d))), .sh (il (zs bs.length)), .ow (T ++ [.tuple [il (dF cs (-d)), il (zs bs.length), il (dS cs (-d))]]), .sh (.int d), x6, .sh (il (dS cs (-d)))]) ?_ (by rw [evS])
    rw [evS, show evC (.cmp .gt (.var 5) (.lit (.int 0))) [.sh (il l), .sh (il bs), .sh (il cs), .sh (il (zs bs.length)), .ow T, .sh (.int d), x6, x7] = some (.bool false, [.sh (il l), .sh (il bs), .sh (il cs), .sh (il (zs bs.length)), .ow T, .sh (.int d), x6, x7]) by
      simp [-getElem?_pos, List.getElem?_cons_zero, List.getElem?_cons_succ, evC, gt_int, h]]
    simp only [Option.bind_some]
    refine evS_seqR (by simp [-getElem?_pos, List.getElem?_cons_zero, List.getElem?_cons_succ, evS, evC, evA, p, bind2]; rfl) ?_
    refine evS_seqR (by simp [-getElem?_pos, List.getElem?_cons_zero, List.getElem?_cons_succ, evS, evC, evA, ownS, list_il, line, hT2]; rfl) ?_
    rw [evS]
theorem days_loopV {l0 bs : List Int} (hl : bs.length ≤ line) : ∀ (l cs : List Int) (T : List D) (x5 x6 x7 : Sl), Fit cs bs → T.length + l.length ≤ line → ∃ F y5 y6 y7, floop (fun d st1 => (bindT (.nm 5) d st1).bind fun st2 => evS Y1_vessels st2) (l.map .int) [.sh (il l0), .sh (il bs), .sh (il cs), .sh (il (zs bs.length)), .ow T, x5, x6, x7] = some (.nx [.sh (il l0), .sh (il bs), .sh F, .sh (il (zs bs.length)), .ow (T ++ (tl bs cs l).map tD), y5, y6, y7])
  | [], cs, T, x5, x6, x7, _, _ => ⟨il cs, x5, x6, x7, by rw [List.map_nil, floop, tl, List.map_nil, List.append_nil]⟩
  | d :: r, cs, T, x5, x6, x7, hf, hT => by
    rw [List.length_cons] at hT
    obtain ⟨y6, y7, e⟩ := day_step (l := l0) (d := d) (T := T) (x6 := x6) (x7 := x7) hf hl (by omega)
    obtain ⟨F, z5, z6, z7, e2⟩ := days_loopV (l0 := l0) hl r (stF bs cs d) (T ++ [tD (stF bs cs d, stO bs cs d, stS bs cs d)]) (.sh (.int d)) y6 y7 (st_fit hf) (by rw [List.length_append, List.length_singleton]; omega)
    refine ⟨F, z5, z6, z7, ?_⟩
    have hb : ((bindT (.nm 5) (.int d) [.sh (il l0), .sh (il bs), .sh (il cs), .sh (il (zs bs.length)), .ow T, x5, x6, x7]).bind fun st2 => evS Y1_vessels st2) = evS Y1_vessels [.sh (il l0), .sh (il bs), .sh (il cs), .sh (il (zs bs.length)), .ow T, .sh (.int d), x6, x7] := rfl
    rw [List.map_cons, floop, hb, e]
    simp only
    rw [e2, tl, List.map_cons, List.append_assoc]
    rfl
theorem mul_list {a : List D} {k : Int} (h : -(2 ^ 63) ≤ k ∧ k < 2 ^ 63 ∧ a.length * k.toNat ≤ line) : binD .mul (.list a) (.int k) = some (.list (List.replicate k.toNat a).flatten) := by
  rw [binD]
  exact if_pos h
theorem flat_zs : ∀ n : Nat, (List.replicate n [PyData.int 0]).flatten = (List.replicate n (0 : Int)).map .int
  | 0 => rfl
  | n + 1 => by rw [List.replicate_succ, List.replicate_succ, List.flatten_cons, flat_zs n]; rfl
theorem zeros_il (n : Nat) (h : n ≤ 100000) : binD .mul (.list [.int 0]) (.int (n : Int)) = some (il (zs n)) := by
  have h2 : ([PyData.int 0] : List D).length * ((n : Int)).toNat ≤ line := by
    rw [List.length_singleton, Int.toNat_natCast]
    unfold line
    omega
  rw [mul_list ⟨by omega, by omega, h2⟩, Int.toNat_natCast, flat_zs]
  rfl
theorem evC_bin {o : BO} {a b : C} {st st1 st2 : DS} {x y z : D} (h1 : evC a st = some (x, st1)) (h2 : evC b st1 = some (y, st2)) (h3 : binD o x y = some z) : evC (.bin o a b) st = some (z, st2) := by
  rw [evC, h1]
  simp only [Option.bind_some, h2, h3, Option.map_some]
theorem evS_asg {c : C} {i : Nat} {st st1 : DS} {d : D} (h : evC c st = some (d, st1)) (hi : i < st1.length) : evS (.asg (.nm i) c) st = some (.nx (st1.set i (.sh d))) := by
  rw [evS, h]
  simp only [Option.bind_some]
  rw [bindT, if_pos hi]
  rfl
theorem zs_fit : ∀ {bs : List Int}, (∀ b ∈ bs, 0 ≤ b) → Fit (zs bs.length) bs
  | [], _ => trivial
  | b :: bs, h => ⟨Int.le_refl 0, h b (by simp), zs_fit fun x hx => h x (by simp [hx])⟩
theorem vessels_ok (l bs : List Int) (h : ∀ b ∈ bs, 0 ≤ b) (h1 : 1 ≤ bs.length) (h2 : bs.length ≤ 12) (hl : l.length ≤ 1000) : F_vessels [il l, il bs] = some (.list ((tl bs (zs bs.length) l).map tD)) := by
  have hb : bs.length ≤ line := by unfold line; omega
  obtain ⟨F, y5, y6, y7, e⟩ := days_loopV (l0 := l) hb l (zs bs.length) [] .emp .emp .emp (zs_fit h) (by unfold line; simp; omega)
  have n1 := need_days_ok l (by unfold line; omega)
  have n2 := need_caps_ok bs h h1 h2
  have z := zeros_il bs.length (by omega)
  have e5 := len_il bs
  have w : evS W1_vessels [.sh (il l), .sh (il bs), .sh (il (zs bs.length)), .sh (il (zs bs.length)), .ow [], .emp, .emp, .emp] = some (.nx [.sh (il l), .sh (il bs), .sh F, .sh (il (zs bs.length)), .ow ((tl bs (zs bs.length) l).map tD), y5, y6, y7]) := by
    unfold W1_vessels
    rw [evS_forr, evI_il (a := l) (st1 := [.sh (il l), .sh (il bs), .sh (il (zs bs.length)), .sh (il (zs bs.length)), .ow [], .emp, .emp, .emp]) (by simp [evC])]
    exact e
  refine fnD_ret rfl ?_
  unfold B_vessels
  refine .seq (by simp [startS, evS, evC, evA, n1]; rfl) ?_
  refine .seq (by simp [evS, evC, evA, n2]; rfl) ?_
  refine .seq (evS_asg (st1 := [.sh (il l), .sh (il bs), .emp, .emp, .emp, .emp, .emp, .emp]) (evC_bin (x := .list [.int 0]) (y := .int (bs.length : Int)) (st1 := [.sh (il l), .sh (il bs), .emp, .emp, .emp, .emp, .emp, .emp]) (by simp [evC, evA, line]) (by simp [evC, evA, e5]) z) (by simp)) ?_
  refine .seq (evS_asg (st1 := [.sh (il l), .sh (il bs), .sh (il (zs bs.length)), .emp, .emp, .emp, .emp, .emp]) (evC_bin (x := .list [.int 0]) (y := .int (bs.length : Int)) (st1 := [.sh (il l), .sh (il bs), .sh (il (zs bs.length)), .emp, .emp, .emp, .emp, .emp]) (by simp [evC, evA, line]) (by simp [evC, evA, e5]) z) (by simp)) ?_
  refine .seq (by simp [evS, evC, evA, freshC, line]; rfl) ?_
  refine .seq w ?_
  refine .ret ?_
  simp [-getElem?_pos, List.getElem?_cons_zero, List.getElem?_cons_succ, evC]
end Sm

set_option Elab.async false
set_option linter.all false
set_option maxRecDepth 100000
set_option maxHeartbeats 4000000
namespace Sm
open PySem PySem.Spec PyProof.Rows L2
/-! ### the law's own caps -/
theorem brims_step {n : Nat} {c : List D} {W lean : Int} {l : List Int} {x4 : Sl} (hc : Ck n c) (hl : 0 ≤ lean ∧ lean < 3) (hW : 30 ≤ W) (hW2 : W < 2 ^ 400) (hn : n + 4 < 2 ^ 60) (hll : l.length < 100000) :
    ∃ (d : Int) (c' : List D), evS Y1__law_brims [.ow c, .sh (.int W), .sh (.int lean), .ow (l.map .int), x4] = some (.nx [.ow c', .sh (.int W), .sh (.int lean), .ow ((l ++ [d]).map .int), x4]) ∧ 0 ≤ d ∧ Ck (n + 4) c' := by
  obtain ⟨r1, c1, e1, p1, q1, k1⟩ := tap_ok (w := 4) hc (by omega) (by omega) (by omega)
  obtain ⟨r2, c2, e2, p2, q2, k2⟩ := tap_ok (w := 12) k1 (by omega) (by omega) (by omega)
  obtain ⟨r3, c3, e3, p3, q3, k3⟩ := tap_ok (w := W) k2 (by omega) (by omega) (by omega)
  obtain ⟨r4, c4, e4, p4, q4, k4⟩ := tap_ok (w := 1 + lean) k3 (by omega) (by omega) (by omega)
  obtain ⟨x, ex, h1, h2⟩ := pick3 (W := W) p4 (by omega) (a := r1) (b := r2) (c := r3) ⟨p1, by omega⟩ ⟨p2, by omega⟩ ⟨p3, q3⟩
  have ex2 : subD (.list [.int r1, .int r2, .int r3]) (.int r4) = some (.int x) := ex
  have hll2 : l.length < 16777216 := by omega
  refine ⟨x, c4, ?_, h1, k4⟩
  unfold Y1__law_brims
  refine evS_seqR (by simp [-getElem?_pos, List.getElem?_cons_zero, List.getElem?_cons_succ, evS, evC, evA, ownS, ad_int, e1, e2, e3, e4, ex2, line, hll2]; rfl) ?_
  rw [evS]
  simp
theorem brims_ok {n : Nat} {c : List D} {W : Int} (hc : Ck n c) (hW : 30 ≤ W) (hW2 : W < 2 ^ 400) (hn : n + 100 < 2 ^ 60) : ∃ (l : List Int) (c' : List D), F__law_brims c [.int W] = some (il l, c') ∧ (∀ b ∈ l, 0 ≤ b) ∧ 1 ≤ l.length ∧ l.length ≤ 12 ∧ Ck (n + 100) c' := by
  obtain ⟨r1, c1, e1, p1, q1, k1⟩ := tap_ok (w := 3) hc (by omega) (by omega) (by omega)
  obtain ⟨r2, c2, e2, p2, q2, k2⟩ := tap_ok (w := 2) k1 (by omega) (by omega) (by omega)
  obtain ⟨m, em, hm⟩ := pick2 (a := 4) (b := 12) p2 q2
  obtain ⟨r3, c3, e3, p3, q3, k3⟩ := tap_ok (w := m) k2 (by omega) (by omega) (by omega)
  have hr : inR (1 + r3) = true := inR_mk (by omega) (by omega)
  obtain ⟨st, e4, c4, x4, l, rfl, k4, l4, d4⟩ := floop_inv (fun d st1 => (bindT (.nm 4) d st1).bind fun st2 => evS Y1__law_brims st2)
    (fun r st => ∃ c' x4 l, st = [.ow c', .sh (.int W), .sh (.int r1), .ow (l.map .int), x4] ∧ Ck (n + 3 + 4 * l.length) c' ∧ l.length + r.length = (1 + r3).toNat ∧ ∀ d ∈ l, (0 : Int) ≤ d)
    ((List.range (1 + r3).toNat).map fun (i : Nat) => .int (i : Int)) [.ow c3, .sh (.int W), .sh (.int r1), .ow [], .emp]
    ⟨c3, _, [], rfl, k3, by simp, by simp⟩ (by
      rintro d r s ⟨c', x4, l, rfl, hk, hlen, hd⟩
      rw [List.length_cons] at hlen
      obtain ⟨y, c'', ee, y1, kk⟩ := brims_step (l := l) (x4 := .sh d) hk ⟨p1, q1⟩ hW hW2 (by omega) (by omega)
      refine ⟨_, .inl ?_, c'', .sh d, l ++ [y], rfl, kk.le (by rw [List.length_append, List.length_singleton]; omega), by rw [List.length_append, List.length_singleton]; omega, ?_⟩
      · exact ee
      · intro d' h'
        rcases List.mem_append.mp h' with h' | h'
        · exact hd d' h'
        · simp only [List.mem_singleton] at h'
          subst h'
          exact y1)
  simp only [List.length_nil] at l4
  refine ⟨l, c4, ?_, d4, by omega, by omega, k4.le (by omega)⟩
  have e5 : evS W1__law_brims [.ow c1, .sh (.int W), .sh (.int r1), .ow [], .emp] = some (.nx [.ow c4, .sh (.int W), .sh (.int r1), .ow (l.map .int), x4]) := by
    unfold W1__law_brims
    rw [evS_forr, evI_rng1 (n := 1 + r3) (st1 := [.ow c3, .sh (.int W), .sh (.int r1), .ow [], .emp]) (by simp [-getElem?_pos, List.getElem?_cons_zero, List.getElem?_cons_succ, evC, evA, ownS, e2, em, e3, ad_int, line]) hr]
    exact e4
  simp [F__law_brims, fnIO, B__law_brims, startS, evS, evC, evA, bindT, ownS, line, freshC, e1, e5, il]
/-! ### the law's looks -/
theorem slc_to (l : List Int) (p : Nat) (h : p ≤ l.length) : slcD (il l) none (some (p : Int)) = some (il (l.take p)) := by
  have e1 : HT.sIx l.length l.length (some (p : Int)) = min p l.length := HT.sIx_nat l.length l.length p
  simp only [slcD, il, cutD, List.length_map, HT.sIx_none, e1, List.drop_zero, Nat.sub_zero, List.map_take]
  rw [Nat.min_eq_left h]
theorem slc_to1 (l : List Int) (p : Nat) (h : p + 1 ≤ l.length) : slcD (il l) none (some ((p : Int) + 1)) = some (il (l.take (p + 1))) := by
  have := slc_to l (p + 1) h
  rwa [show ((p + 1 : Nat) : Int) = (p : Int) + 1 by omega] at this
theorem slc_from (l : List Int) (p : Nat) (h : p ≤ l.length) : slcD (il l) (some (p : Int)) none = some (il (l.drop p)) := by
  have e1 : HT.sIx l.length 0 (some (p : Int)) = min p l.length := HT.sIx_nat l.length 0 p
  simp only [slcD, il, cutD, List.length_map, HT.sIx_none, e1, List.map_drop]
  rw [Nat.min_eq_left h, List.take_of_length_le (by simp)]
theorem slc_one (x : Int) (l : List Int) : slcD (il (x :: l)) (some 1) none = some (il l) := by
  have := slc_from (x :: l) 1 (by simp)
  simpa using this
theorem tD_0 (t : List Int × List Int × List Int) : subD (tD t) (.int 0) = some (il t.1) := tup3_0 _ _ _
theorem tD_1 (t : List Int × List Int × List Int) : subD (tD t) (.int 1) = some (il t.2.1) := tup3_1 _ _ _
theorem tD_2 (t : List Int × List Int × List Int) : subD (tD t) (.int 2) = some (il t.2.2) := tup3_2 _ _ _
section
variable {T : List (List Int × List Int × List Int)} {m : Nat} {x0 x1 x2 x3 x4 x6 x8 x9 x10 x11 x12 : Sl}
theorem evI_T {st : DS} {j : Nat} (h : st[j]? = some (.sh (.list (T.map tD)))) : evI (.seq (.var j)) st = some (T.map tD, st) := by
  rw [evI, evC, h]
  rfl
theorem L7_ok (hT : T.length ≤ line) (h : ∀ t ∈ T, m + 1 ≤ t.1.length) : evC L7_law [x0, x1, x2, x3, x4, .sh (.list (T.map tD)), x6, .sh (.int ((m : Int) + 1)), x8, x9, x10, x11, x12] = some (il (T.map fun t => (t.1.take (m + 1)).sum), [x0, x1, x2, x3, x4, .sh (.list (T.map tD)), x6, .sh (.int ((m : Int) + 1)), x8, x9, x10, x11, x12]) := by
  unfold L7_law
  rw [ev_lc (st1 := [x0, x1, x2, x3, x4, .sh (.list (T.map tD)), x6, .sh (.int ((m : Int) + 1)), x8, x9, x10, x11, x12]) T tD (fun t => .int (t.1.take (m + 1)).sum) (evI_T rfl) hT (fun t ht => by
    have s := slc_to1 t.1 m (h t ht)
    have s2 := sum_il (t.1.take (m + 1))
    simp [-getElem?_pos, List.getElem?_cons_zero, List.getElem?_cons_succ, bindT, wipeS, evC, evA, evP, isNop, tD_0, s, s2])]
  simp [wipeS, backS, il]
theorem L6_ok (hT : T.length ≤ line) (h : ∀ t ∈ T, m < t.2.1.length) : evC L6_law [x0, x1, x2, x3, x4, .sh (.list (T.map tD)), x6, .sh (.int ((m : Int) + 1)), x8, x9, x10, x11, x12] = some (il (T.map fun t => t.2.1.getD m 0), [x0, x1, x2, x3, x4, .sh (.list (T.map tD)), x6, .sh (.int ((m : Int) + 1)), x8, x9, x10, x11, x12]) := by
  unfold L6_law
  rw [ev_lc (st1 := [x0, x1, x2, x3, x4, .sh (.list (T.map tD)), x6, .sh (.int ((m : Int) + 1)), x8, x9, x10, x11, x12]) T tD (fun t => .int (t.2.1.getD m 0)) (evI_T rfl) hT (fun t ht => by
    have s := sub_il (h t ht)
    have s3 : (m : Int) + 1 - 1 = (m : Int) := by omega
    simp only [List.getElem?_cons_zero, List.getElem?_cons_succ, List.length_cons, List.length_nil, bindT, wipeS, evC, evA, tD_1, sb_int, s3, s, List.set_cons_succ, List.set_cons_zero, Option.bind_some, Option.map_some, Nat.reduceAdd, Nat.reduceLT, if_true])]
  simp [wipeS, backS, il]
theorem L5_ok (hT : T.length ≤ line) (h : ∀ t ∈ T, m < t.2.2.length) : evC L5_law [x0, x1, x2, x3, x4, .sh (.list (T.map tD)), x6, .sh (.int ((m : Int) + 1)), x8, x9, x10, x11, x12] = some (il (T.map fun t => t.2.2.getD m 0), [x0, x1, x2, x3, x4, .sh (.list (T.map tD)), x6, .sh (.int ((m : Int) + 1)), x8, x9, x10, x11, x12]) := by
  unfold L5_law
  rw [ev_lc (st1 := [x0, x1, x2, x3, x4, .sh (.list (T.map tD)), x6, .sh (.int ((m : Int) + 1)), x8, x9, x10, x11, x12]) T tD (fun t => .int (t.2.2.getD m 0)) (evI_T rfl) hT (fun t ht => by
    have s := sub_il (h t ht)
    have s3 : (m : Int) + 1 - 1 = (m : Int) := by omega
    simp only [List.getElem?_cons_zero, List.getElem?_cons_succ, List.length_cons, List.length_nil, bindT, wipeS, evC, evA, tD_2, sb_int, s3, s, List.set_cons_succ, List.set_cons_zero, Option.bind_some, Option.map_some, Nat.reduceAdd, Nat.reduceLT, if_true])]
  simp [wipeS, backS, il]
theorem L3_ok (hT : T.length ≤ line) (h : ∀ t ∈ T, m < t.1.length) : evC L3_law [x0, x1, x2, x3, x4, .sh (.list (T.map tD)), x6, .sh (.int ((m : Int) + 1)), x8, x9, x10, x11, x12] = some (il (T.map fun t => t.1.getD m 0), [x0, x1, x2, x3, x4, .sh (.list (T.map tD)), x6, .sh (.int ((m : Int) + 1)), x8, x9, x10, x11, x12]) := by
  unfold L3_law
  rw [ev_lc (st1 := [x0, x1, x2, x3, x4, .sh (.list (T.map tD)), x6, .sh (.int ((m : Int) + 1)), x8, x9, x10, x11, x12]) T tD (fun t => .int (t.1.getD m 0)) (evI_T rfl) hT (fun t ht => by
    have s := sub_il (h t ht)
    have s3 : (m : Int) + 1 - 1 = (m : Int) := by omega
    simp only [List.getElem?_cons_zero, List.getElem?_cons_succ, List.length_cons, List.length_nil, bindT, wipeS, evC, evA, tD_0, sb_int, s3, s, List.set_cons_succ, List.set_cons_zero, Option.bind_some, Option.map_some, Nat.reduceAdd, Nat.reduceLT, if_true])]
  simp [wipeS, backS, il]
theorem L4_ok {F A : List Int} {x5 x7 : Sl} {f a : Int} (hF : F.length + 1 ≤ line) (hA : A.length = F.length) : evC L4_law [x0, x1, x2, x3, x4, x5, .sh (il (a :: A)), x7, .sh (il (f :: F)), x9, x10, x11, x12] = some (il (List.zipWith (fun x y => x - y) F A), [x0, x1, x2, x3, x4, x5, .sh (il (a :: A)), x7, .sh (il (f :: F)), x9, x10, x11, x12]) := by
  unfold L4_law
  have e := len_il (f :: F)
  rw [List.length_cons] at e
  have e2 : (((F.length + 1 : Nat) : Int) - 1).toNat = F.length := by omega
  rw [ev_lc (st1 := [x0, x1, x2, x3, x4, x5, .sh (il (a :: A)), x7, .sh (il (f :: F)), x9, x10, x11, x12]) (List.range F.length) (fun i => .int (1 + (i : Int))) (fun i => .int (F.getD i 0 - A.getD i 0)) (by
      rw [evI_rng2 (n := 1) (m := ((F.length + 1 : Nat) : Int)) (st1 := [x0, x1, x2, x3, x4, x5, .sh (il (a :: A)), x7, .sh (il (f :: F)), x9, x10, x11, x12]) (by
        simp only [List.getElem?_cons_zero, List.getElem?_cons_succ, evC, evA, e, Option.bind_some, Option.map_some]) (inR_mk (by omega) (by omega)) (inR_len hF), e2]) (range_le (by omega)) (fun i hi => by
      have hi2 : i < F.length := by simpa using hi
      have s1 := sub_il (a := f :: F) (i := i + 1) (by simpa using hi2)
      have s2 := sub_il (a := a :: A) (i := i + 1) (by rw [List.length_cons]; omega)
      rw [show ((i + 1 : Nat) : Int) = 1 + (i : Int) by omega] at s1 s2
      simp only [List.getD_cons_succ] at s1 s2
      simp only [List.getElem?_cons_zero, List.getElem?_cons_succ, List.length_cons, List.length_nil, bindT, wipeS, evC, evA, sb_int, s1, s2, List.set_cons_succ, List.set_cons_zero, Option.bind_some, Option.map_some, Nat.reduceAdd, Nat.reduceLT, if_true])]
  rw [← zip_get (by omega)]
  simp [wipeS, backS, il]
end
end Sm

set_option Elab.async false
set_option linter.all false
set_option maxRecDepth 100000
set_option maxHeartbeats 4000000
namespace Sm
open PySem PySem.Spec PyProof.Rows L2
theorem zs_take (n m : Nat) : ((zs n).take m).sum = 0 := by
  unfold zs
  rw [List.take_replicate]
  induction (min m n) with
  | zero => rfl
  | succ k ih => rw [List.replicate_succ, List.sum_cons, ih]; omega
theorem cts_zero : ∀ l : List Int, cts 0 0 l = zs l.length
  | [] => rfl
  | d :: r => by
    have e : nxt 0 0 d = 0 := by unfold nxt; (repeat' split) <;> omega
    rw [cts, e, cts_zero r]
    rfl
theorem sums_pos {bs : List Int} (h : ∀ b ∈ bs, 0 ≤ b) (m : Nat) : 0 ≤ (bs.take m).sum := by
  have := fit_take m (zs_fit h)
  omega
theorem map_zip {α : Type} (T : List α) (f g : α → Int) : List.zipWith (fun x y => x - y) (T.map f) (T.map g) = T.map fun t => f t - g t := by
  induction T with
  | nil => rfl
  | cons t r ih => rw [List.map_cons, List.map_cons, List.map_cons, List.zipWith_cons_cons, ih]
/-- one number of vessels -/
theorem some_step {l bs : List Int} {m : Nat} {x0 x1 x2 x8 x9 x10 x11 x12 : Sl} (hl : l.length ≤ 1000) (hb : ∀ b ∈ bs, 0 ≤ b) (hm : m < bs.length) (h12 : bs.length ≤ 12) :
    ∃ y8 y9 y10, evS Y2_law [x0, x1, x2, .sh (il l), .sh (il bs), .sh (.list ((tl bs (zs bs.length) l).map tD)), .sh (il (0 :: cts (bs.take m).sum 0 l)), .sh (.int ((m : Int) + 1)), x8, x9, x10, x11, x12] = some (.nx [x0, x1, x2, .sh (il l), .sh (il bs), .sh (.list ((tl bs (zs bs.length) l).map tD)), .sh (il (0 :: cts (bs.take (m + 1)).sum 0 l)), .sh (.int ((m : Int) + 1)), y8, y9, y10, x11, x12]) := by
  have fz := zs_fit hb
  have B0 := sums_pos hb (m + 1)
  have hlin : l.length < line := by unfold line; omega
  have run1 := run_ok l (bs.take (m + 1)).sum 0 hlin (by omega) B0
  have sl := slc_to1 bs m (by omega)
  have sm := sum_il (bs.take (m + 1))
  have hT : (tl bs (zs bs.length) l).length ≤ line := by rw [tl_len]; omega
  have all := tl_all l (zs bs.length) fz
  have t7 := tl_take (bs := bs) (m + 1) l (zs bs.length) fz
  have t7b := tl_take (bs := bs) m l (zs bs.length) fz
  have t6 := tl_over m hm l (zs bs.length) fz
  have t5 := tl_lack m hm l (zs bs.length) fz
  rw [zs_take] at t7 t7b t6 t5
  have t3 : (tl bs (zs bs.length) l).map (fun t => t.1.getD m 0) = List.zipWith (fun x y => x - y) (cts (bs.take (m + 1)).sum 0 l) (cts (bs.take m).sum 0 l) := by
    rw [← t7, ← t7b, map_zip]
    apply List.map_congr_left
    intro t ht
    have := fit_len (all t ht).1
    exact take_get t.1 m (by omega)
  have l7 := fun x6 x8 x9 x10 => @L7_ok (tl bs (zs bs.length) l) m x0 x1 x2 (.sh (il l)) (.sh (il bs)) x6 x8 x9 x10 x11 x12 hT (fun t ht => by have := fit_len (all t ht).1; omega)
  have l6 := fun x6 x8 x9 x10 => @L6_ok (tl bs (zs bs.length) l) m x0 x1 x2 (.sh (il l)) (.sh (il bs)) x6 x8 x9 x10 x11 x12 hT (fun t ht => by have := (all t ht).2.1; omega)
  have l5 := fun x6 x8 x9 x10 => @L5_ok (tl bs (zs bs.length) l) m x0 x1 x2 (.sh (il l)) (.sh (il bs)) x6 x8 x9 x10 x11 x12 hT (fun t ht => by have := (all t ht).2.2.1; omega)
  have l3 := fun x6 x8 x9 x10 => @L3_ok (tl bs (zs bs.length) l) m x0 x1 x2 (.sh (il l)) (.sh (il bs)) x6 x8 x9 x10 x11 x12 hT (fun t ht => by have := fit_len (all t ht).1; omega)
  have l4 := fun x5 x7 x9 x10 => @L4_ok x0 x1 x2 (.sh (il l)) (.sh (il bs)) x9 x10 x11 x12 (cts (bs.take (m + 1)).sum 0 l) (cts (bs.take m).sum 0 l) x5 x7 0 0 (by rw [cts_len]; omega) (by rw [cts_len, cts_len])
  rw [t7] at l7
  rw [t6] at l6
  rw [t5] at l5
  rw [t3] at l3
  have o1 := slc_one 0 (cts (bs.take (m + 1)).sum 0 l)
  have n1 := ne_il (cts (bs.take (m + 1)).sum 0 l) (cts (bs.take (m + 1)).sum 0 l)
  have n2 := ne_il (ovs (bs.take (m + 1)).sum 0 l) (ovs (bs.take (m + 1)).sum 0 l)
  have n3 := ne_il (shs (bs.take (m + 1)).sum 0 l) (shs (bs.take (m + 1)).sum 0 l)
  have n4 := ne_il (List.zipWith (fun x y => x - y) (cts (bs.take (m + 1)).sum 0 l) (cts (bs.take m).sum 0 l)) (List.zipWith (fun x y => x - y) (cts (bs.take (m + 1)).sum 0 l) (cts (bs.take m).sum 0 l))
  simp only [decide_true, Bool.not_true] at n1 n2 n3 n4
  generalize hTT : (tl bs (zs bs.length) l).map tD = TT at *
  refine ⟨.sh (il (0 :: cts (bs.take (m + 1)).sum 0 l)), .sh (il (ovs (bs.take (m + 1)).sum 0 l)), .sh (il (shs (bs.take (m + 1)).sum 0 l)), ?_⟩
  unfold Y2_law
  refine evS_seqR (by simp [-getElem?_pos, List.getElem?_cons_zero, List.getElem?_cons_succ, evS, evC, evA, evP, isNop, sl, sm, run1, bind3]; rfl) ?_
  refine evS_if0R (by simp [-getElem?_pos, List.getElem?_cons_zero, List.getElem?_cons_succ, evC, evP, isNop, l7, o1, n1]; rfl) ?_
  refine evS_if0R (by simp [-getElem?_pos, List.getElem?_cons_zero, List.getElem?_cons_succ, evC, l6, l5, n2, n3]; rfl) ?_
  refine evS_if0R (by simp [-getElem?_pos, List.getElem?_cons_zero, List.getElem?_cons_succ, evC, l3, l4, n4]; rfl) ?_
  refine evS_seqR (by simp [-getElem?_pos, List.getElem?_cons_zero, List.getElem?_cons_succ, evS, evC, bindT]; rfl) ?_
  rw [evS]
theorem drop_range {n m : Nat} (h : m < n) : (List.range n).drop m = m :: (List.range n).drop (m + 1) := by
  rw [List.drop_eq_getElem_cons (by simpa using h)]
  simp
theorem W2_ok {l bs : List Int} {x0 x1 x2 x7 x8 x9 x10 x11 x12 : Sl} (hl : l.length ≤ 1000) (hb : ∀ b ∈ bs, 0 ≤ b) (h12 : bs.length ≤ 12) :
    ∃ y6 y7 y8 y9 y10, evS W2_law [x0, x1, x2, .sh (il l), .sh (il bs), .sh (.list ((tl bs (zs bs.length) l).map tD)), .sh (il (zs (l.length + 1))), x7, x8, x9, x10, x11, x12] = some (.nx [x0, x1, x2, .sh (il l), .sh (il bs), .sh (.list ((tl bs (zs bs.length) l).map tD)), y6, y7, y8, y9, y10, x11, x12]) := by
  obtain ⟨st, e, y6, y7, y8, y9, y10, rfl, _⟩ := floop_inv (fun d st1 => (bindT (.nm 7) d st1).bind fun st2 => evS Y2_law st2)
    (fun r st => ∃ y6 y7 y8 y9 y10, st = [x0, x1, x2, .sh (il l), .sh (il bs), .sh (.list ((tl bs (zs bs.length) l).map tD)), y6, y7, y8, y9, y10, x11, x12] ∧ ∃ m : Nat, y6 = .sh (il (0 :: cts (bs.take m).sum 0 l)) ∧ r = ((List.range bs.length).drop m).map fun (i : Nat) => .int ((i : Int) + 1))
    ((List.range bs.length).map fun (i : Nat) => .int ((i : Int) + 1)) [x0, x1, x2, .sh (il l), .sh (il bs), .sh (.list ((tl bs (zs bs.length) l).map tD)), .sh (il (zs (l.length + 1))), x7, x8, x9, x10, x11, x12]
    ⟨_, _, _, _, _, rfl, 0, by rw [List.take_zero, List.sum_nil, cts_zero]; rfl, rfl⟩ (by
      rintro d r s ⟨y6, y7, y8, y9, y10, rfl, m, rfl, hr⟩
      have hm : m < bs.length := by
        rcases Nat.lt_or_ge m bs.length with h | h
        · exact h
        · rw [List.drop_eq_nil_of_le (by simpa using h)] at hr
          cases hr
      rw [drop_range hm, List.map_cons] at hr
      cases hr
      obtain ⟨z8, z9, z10, e⟩ := @some_step l bs m x0 x1 x2 y8 y9 y10 x11 x12 hl hb hm h12
      exact ⟨_, .inl e, _, _, z8, z9, z10, rfl, m + 1, rfl, rfl⟩)
  refine ⟨y6, y7, y8, y9, y10, ?_⟩
  unfold W2_law
  have e5 := len_il bs
  have hr : evI (.rng (.acons (.lit (.int 1)) (.acons (.bin .add (.blt .len (.acons (.var 4) .anil)) (.lit (.int 1))) .anil))) [x0, x1, x2, .sh (il l), .sh (il bs), .sh (.list ((tl bs (zs bs.length) l).map tD)), .sh (il (zs (l.length + 1))), x7, x8, x9, x10, x11, x12] = some ((List.range bs.length).map fun (i : Nat) => .int ((i : Int) + 1), [x0, x1, x2, .sh (il l), .sh (il bs), .sh (.list ((tl bs (zs bs.length) l).map tD)), .sh (il (zs (l.length + 1))), x7, x8, x9, x10, x11, x12]) := by
    rw [evI_rng2 (n := 1) (m := (bs.length : Int) + 1) (st1 := [x0, x1, x2, .sh (il l), .sh (il bs), .sh (.list ((tl bs (zs bs.length) l).map tD)), .sh (il (zs (l.length + 1))), x7, x8, x9, x10, x11, x12]) (by
      simp only [List.getElem?_cons_zero, List.getElem?_cons_succ, evC, evA, e5, ad_int, Option.bind_some, Option.map_some]) (inR_mk (by omega) (by omega)) (inR_mk (by omega) (by omega)), show ((bs.length : Int) + 1 - 1).toNat = bs.length by omega]
    congr 2
    apply List.map_congr_left
    intro i _
    rw [show 1 + (i : Int) = (i : Int) + 1 by omega]
  rw [evS_forr, hr]
  exact e
theorem sorted_step {x0 x1 x2 x3 x4 x5 x6 x7 x8 x11 x12 : Sl} {a b : List Int} (ha : a.Pairwise (fun x y => y ≤ x)) (hb : b.Pairwise (fun x y => y ≤ x)) : evS Y1_law [x0, x1, x2, x3, x4, x5, x6, x7, x8, .sh (il a), .sh (il b), x11, x12] = some (.nx [x0, x1, x2, x3, x4, x5, x6, x7, x8, .sh (il a), .sh (il b), x11, x12]) := by
  have s1 : evC L2_law [x0, x1, x2, x3, x4, x5, x6, x7, x8, .sh (il a), .sh (il b), x11, x12] = some (il a, [x0, x1, x2, x3, x4, x5, x6, x7, x8, .sh (il a), .sh (il b), x11, x12]) := by
    unfold L2_law
    rw [ev_srev (a := a) (st1 := [x0, x1, x2, x3, x4, x5, x6, x7, x8, .sh (il a), .sh (il b), x11, x12]) (by simp only [List.getElem?_cons_zero, List.getElem?_cons_succ, evC]), sortR_il a ha]
  have s2 : evC L1_law [x0, x1, x2, x3, x4, x5, x6, x7, x8, .sh (il a), .sh (il b), x11, x12] = some (il b, [x0, x1, x2, x3, x4, x5, x6, x7, x8, .sh (il a), .sh (il b), x11, x12]) := by
    unfold L1_law
    rw [ev_srev (a := b) (st1 := [x0, x1, x2, x3, x4, x5, x6, x7, x8, .sh (il a), .sh (il b), x11, x12]) (by simp only [List.getElem?_cons_zero, List.getElem?_cons_succ, evC]), sortR_il b hb]
  have n1 := ne_il a a
  have n2 := ne_il b b
  simp only [decide_true, Bool.not_true] at n1 n2
  unfold Y1_law
  refine evS_if0R (by simp [-getElem?_pos, List.getElem?_cons_zero, List.getElem?_cons_succ, evC, s1, s2, n1, n2]; rfl) ?_
  rw [evS]
theorem W1_ok {T : List (List Int × List Int × List Int)} (hT : ∀ t ∈ T, t.2.1.Pairwise (fun x y => y ≤ x) ∧ t.2.2.Pairwise (fun x y => y ≤ x)) {x0 x1 x2 x3 x4 x6 x7 x8 x9 x10 x11 x12 : Sl} : ∃ y8 y9 y10, evS W1_law [x0, x1, x2, x3, x4, .sh (.list (T.map tD)), x6, x7, x8, x9, x10, x11, x12] = some (.nx [x0, x1, x2, x3, x4, .sh (.list (T.map tD)), x6, x7, y8, y9, y10, x11, x12]) := by
  obtain ⟨st, e, y8, y9, y10, rfl, _⟩ := floop_inv (fun d st1 => (bindT (.tp (.cons (.nm 8) (.cons (.nm 9) (.cons (.nm 10) .nil)))) d st1).bind fun st2 => evS Y1_law st2)
    (fun r st => ∃ y8 y9 y10, st = [x0, x1, x2, x3, x4, .sh (.list (T.map tD)), x6, x7, y8, y9, y10, x11, x12] ∧ ∃ U : List (List Int × List Int × List Int), r = U.map tD ∧ ∀ t ∈ U, t.2.1.Pairwise (fun x y => y ≤ x) ∧ t.2.2.Pairwise (fun x y => y ≤ x))
    (T.map tD) [x0, x1, x2, x3, x4, .sh (.list (T.map tD)), x6, x7, x8, x9, x10, x11, x12] ⟨_, _, _, rfl, T, rfl, hT⟩ (by
      rintro d r s ⟨y8, y9, y10, rfl, U, hr, hU⟩
      cases U with
      | nil => cases hr
      | cons t U =>
        rw [List.map_cons] at hr
        cases hr
        obtain ⟨h1, h2⟩ := hU t (by simp)
        refine ⟨_, .inl ?_, .sh (il t.1), .sh (il t.2.1), .sh (il t.2.2), rfl, U, rfl, fun t ht => hU t (by simp [ht])⟩
        unfold tD
        rw [bind3 (by simp) (by simp) (by simp)]
        exact sorted_step h1 h2)
  refine ⟨y8, y9, y10, ?_⟩
  unfold W1_law
  rw [evS_forr, evI_T rfl]
  exact e
theorem pick3x {a b c r : Int} (hr : 0 ≤ r) (hr2 : r < 3) : ∃ x : Int, subD (.list [.int a, .int b, .int c]) (.int r) = some (.int x) ∧ (x = a ∨ x = b ∨ x = c) := by
  rcases (show r = 0 ∨ r = 1 ∨ r = 2 by omega) with rfl | rfl | rfl
  · exact ⟨a, by simp [subD, atD, atI_zero], .inl rfl⟩
  · exact ⟨b, by simp [subD, atD, atI_one], .inr (.inl rfl)⟩
  · exact ⟨c, by simp [subD, atD, atI_two], .inr (.inr rfl)⟩
theorem pow12 : binD .pow (.int 10) (.int 12) = some (.int 1000000000000) := by
  simp [binD, ib10]
theorem law_step (ns : List Int) (k : Nat) (hk : k ≤ 1000) (x2 x3 x4 x5 x6 x7 x8 x9 x10 x11 x12 : Sl) : ∃ y2 y3 y4 y5 y6 y7 y8 y9 y10 y11 y12, evS Y3_law [.ro ns, .sh (.int k), x2, x3, x4, x5, x6, x7, x8, x9, x10, x11, x12] = some (.nx [.ro ns, .sh (.int k), y2, y3, y4, y5, y6, y7, y8, y9, y10, y11, y12]) := by
  obtain ⟨c0, e0, k0⟩ := cask_ok ns k hk
  obtain ⟨r1, c1, e1, p1, q1, k1⟩ := tap_ok (w := 3) k0 (by omega) (by omega) (by omega)
  obtain ⟨m, em, hm⟩ := pick3x (a := 8) (b := 80) (c := 200) p1 q1
  obtain ⟨l, c2, e2, hl, k2⟩ := days_ok (m := m) (W := 1000000000000) k1 (by omega) (by omega) (by omega) (by omega) (by omega)
  obtain ⟨bs, c3, e3, hb, hb1, hb2, k3⟩ := brims_ok (W := 100000000000) k2 (by omega) (by omega) (by omega)
  have hlen : l.length ≤ 1000 := by have := hl.1; omega
  have v := vessels_ok l bs hb hb1 hb2 hlen
  have z := zeros_il (l.length + 1) (by omega)
  rw [show ((l.length + 1 : Nat) : Int) = (l.length : Int) + 1 by omega] at z
  have g3 := len_il l
  obtain ⟨y6, y7, y8, y9, y10, w2⟩ := @W2_ok l bs (.ro ns) (.sh (.int k)) (.ow c3) x7 x8 x9 x10 x11 x12 hlen hb hb2
  obtain ⟨z8, z9, z10, w1⟩ := @W1_ok (tl bs (zs bs.length) l) (fun t ht => (tl_all l _ (zs_fit hb) t ht).2.2.2) (.ro ns) (.sh (.int k)) (.ow c3) (.sh (il l)) (.sh (il bs)) y6 y7 y8 y9 y10 x11 x12
  generalize (tl bs (zs bs.length) l).map tD = TT at *
  refine ⟨.ow c3, .sh (il l), .sh (il bs), .sh (.list TT), y6, y7, z8, z9, z10, x11, x12, ?_⟩
  unfold Y3_law
  refine evS_seqR (by simp [-getElem?_pos, List.getElem?_cons_zero, List.getElem?_cons_succ, evS, evC, evA, roS, e0, freshC]; rfl) ?_
  refine evS_seqR (by simp [-getElem?_pos, List.getElem?_cons_zero, List.getElem?_cons_succ, evS, evC, evA, ownS, bindT, e1, em, pow12, e2, line]; rfl) ?_
  refine evS_seqR (by simp [-getElem?_pos, List.getElem?_cons_zero, List.getElem?_cons_succ, evS, evC, evA, ownS, bindT, pow11, e3]; rfl) ?_
  refine evS_seqR (by simp [-getElem?_pos, List.getElem?_cons_zero, List.getElem?_cons_succ, evS, evC, evA, bindT, v]; rfl) ?_
  refine evS_seqR (evS_asg (evC_bin (x := .list [.int 0]) (y := .int ((l.length : Int) + 1)) (st1 := [.ro ns, .sh (.int k), .ow c3, .sh (il l), .sh (il bs), .sh (.list TT), x6, x7, x8, x9, x10, x11, x12]) (st2 := [.ro ns, .sh (.int k), .ow c3, .sh (il l), .sh (il bs), .sh (.list TT), x6, x7, x8, x9, x10, x11, x12]) (by simp [evC, evA, line]) (by simp [-getElem?_pos, List.getElem?_cons_zero, List.getElem?_cons_succ, evC, evA, g3, ad_int]) z) (by simp)) ?_
  refine evS_seqR w2 ?_
  refine evS_seqR w1 ?_
  rw [evS]
theorem law_true (ns : List Int) (hn : ns.length ≤ 63) : F_law ns [] = some (.bool true) := by
  unfold F_law B_law W3_law
  refine law_top (fun st h => cells st h) (by omega) fun k tl hk ht => ?_
  match tl, ht with
  | [x2, x3, x4, x5, x6, x7, x8, x9, x10, x11, x12], _ =>
    obtain ⟨y2, y3, y4, y5, y6, y7, y8, y9, y10, y11, y12, e⟩ := law_step ns k hk x2 x3 x4 x5 x6 x7 x8 x9 x10 x11 x12
    exact ⟨_, rfl, e⟩
end Sm

set_option Elab.async false
set_option linter.all false
set_option maxRecDepth 100000
set_option maxHeartbeats 4000000
namespace Sm
open PySem PySem.Spec PyProof.Rows L2
/-! ### what the top has written; the law's own head -/
theorem all_mk {l : PySem.W.OpenLaw} {w : World} {K : PySem.W.Frag} {h : Heap} {mg : Str → Option Value} {fa f0 f1 f2 f3 f4 f5 f6 f7 f8 f9 f10 f11 f12 f13 f14 f15 f16 f17 f18 : Addr} (X : K.In h) (G : h.Ns mainGlobals mg) (hfa : mg "law" = some (.ref fa))
    {od0 an0 : Option Addr} {sl0 : Array (Option Value)} {oc0 kV0 dc0 pm0 cd0 ct0 : Value}
    (a0 : PySem.W.nsIn K mainGlobals "is_whole" = some (some (.ref f0))) (l0 : K.lookup f0 = some ⟨oc0, od0, .func (PySem.W.fnOf "is_whole" "is_whole" (defArgs st_is_whole) (defBody st_is_whole) (defScope st_is_whole) .none kV0 dc0 pm0 an0 cd0 ct0), sl0⟩) (c0 : PySem.W.codeIn K cd0 "is_whole" = true) (k0 : PySem.W.keepIn K (.ref f0) = true)
    {od1 an1 : Option Addr} {sl1 : Array (Option Value)} {oc1 kV1 dc1 pm1 cd1 ct1 : Value}
    (a1 : PySem.W.nsIn K mainGlobals "is_amount" = some (some (.ref f1))) (l1 : K.lookup f1 = some ⟨oc1, od1, .func (PySem.W.fnOf "is_amount" "is_amount" (defArgs st_is_amount) (defBody st_is_amount) (defScope st_is_amount) .none kV1 dc1 pm1 an1 cd1 ct1), sl1⟩) (c1 : PySem.W.codeIn K cd1 "is_amount" = true) (k1 : PySem.W.keepIn K (.ref f1) = true)
    {od2 an2 : Option Addr} {sl2 : Array (Option Value)} {oc2 kV2 dc2 pm2 cd2 ct2 : Value}
    (a2 : PySem.W.nsIn K mainGlobals "is_days" = some (some (.ref f2))) (l2 : K.lookup f2 = some ⟨oc2, od2, .func (PySem.W.fnOf "is_days" "is_days" (defArgs st_is_days) (defBody st_is_days) (defScope st_is_days) .none kV2 dc2 pm2 an2 cd2 ct2), sl2⟩) (c2 : PySem.W.codeIn K cd2 "is_days" = true) (k2 : PySem.W.keepIn K (.ref f2) = true)
    {od3 an3 : Option Addr} {sl3 : Array (Option Value)} {oc3 kV3 dc3 pm3 cd3 ct3 : Value}
    (a3 : PySem.W.nsIn K mainGlobals "need_days" = some (some (.ref f3))) (l3 : K.lookup f3 = some ⟨oc3, od3, .func (PySem.W.fnOf "need_days" "need_days" (defArgs st_need_days) (defBody st_need_days) (defScope st_need_days) .none kV3 dc3 pm3 an3 cd3 ct3), sl3⟩) (c3 : PySem.W.codeIn K cd3 "need_days" = true) (k3 : PySem.W.keepIn K (.ref f3) = true)
    {od4 an4 : Option Addr} {sl4 : Array (Option Value)} {oc4 kV4 dc4 pm4 cd4 ct4 : Value}
    (a4 : PySem.W.nsIn K mainGlobals "need_cap" = some (some (.ref f4))) (l4 : K.lookup f4 = some ⟨oc4, od4, .func (PySem.W.fnOf "need_cap" "need_cap" (defArgs st_need_cap) (defBody st_need_cap) (defScope st_need_cap) .none kV4 dc4 pm4 an4 cd4 ct4), sl4⟩) (c4 : PySem.W.codeIn K cd4 "need_cap" = true) (k4 : PySem.W.keepIn K (.ref f4) = true)
    {od5 an5 : Option Addr} {sl5 : Array (Option Value)} {oc5 kV5 dc5 pm5 cd5 ct5 : Value}
    (a5 : PySem.W.nsIn K mainGlobals "need_start" = some (some (.ref f5))) (l5 : K.lookup f5 = some ⟨oc5, od5, .func (PySem.W.fnOf "need_start" "need_start" (defArgs st_need_start) (defBody st_need_start) (defScope st_need_start) .none kV5 dc5 pm5 an5 cd5 ct5), sl5⟩) (c5 : PySem.W.codeIn K cd5 "need_start" = true) (k5 : PySem.W.keepIn K (.ref f5) = true)
    {od6 an6 : Option Addr} {sl6 : Array (Option Value)} {oc6 kV6 dc6 pm6 cd6 ct6 : Value}
    (a6 : PySem.W.nsIn K mainGlobals "stepped" = some (some (.ref f6))) (l6 : K.lookup f6 = some ⟨oc6, od6, .func (PySem.W.fnOf "stepped" "stepped" (defArgs st_stepped) (defBody st_stepped) (defScope st_stepped) .none kV6 dc6 pm6 an6 cd6 ct6), sl6⟩) (c6 : PySem.W.codeIn K cd6 "stepped" = true) (k6 : PySem.W.keepIn K (.ref f6) = true)
    {od7 an7 : Option Addr} {sl7 : Array (Option Value)} {oc7 kV7 dc7 pm7 cd7 ct7 : Value}
    (a7 : PySem.W.nsIn K mainGlobals "ran" = some (some (.ref f7))) (l7 : K.lookup f7 = some ⟨oc7, od7, .func (PySem.W.fnOf "ran" "ran" (defArgs st_ran) (defBody st_ran) (defScope st_ran) .none kV7 dc7 pm7 an7 cd7 ct7), sl7⟩) (c7 : PySem.W.codeIn K cd7 "ran" = true) (k7 : PySem.W.keepIn K (.ref f7) = true)
    {od8 an8 : Option Addr} {sl8 : Array (Option Value)} {oc8 kV8 dc8 pm8 cd8 ct8 : Value}
    (a8 : PySem.W.nsIn K mainGlobals "need_run" = some (some (.ref f8))) (l8 : K.lookup f8 = some ⟨oc8, od8, .func (PySem.W.fnOf "need_run" "need_run" (defArgs st_need_run) (defBody st_need_run) (defScope st_need_run) .none kV8 dc8 pm8 an8 cd8 ct8), sl8⟩) (c8 : PySem.W.codeIn K cd8 "need_run" = true) (k8 : PySem.W.keepIn K (.ref f8) = true)
    {od9 an9 : Option Addr} {sl9 : Array (Option Value)} {oc9 kV9 dc9 pm9 cd9 ct9 : Value}
    (a9 : PySem.W.nsIn K mainGlobals "run" = some (some (.ref f9))) (l9 : K.lookup f9 = some ⟨oc9, od9, .func (PySem.W.fnOf "run" "run" (defArgs st_run) (defBody st_run) (defScope st_run) .none kV9 dc9 pm9 an9 cd9 ct9), sl9⟩) (c9 : PySem.W.codeIn K cd9 "run" = true) (k9 : PySem.W.keepIn K (.ref f9) = true)
    {od10 an10 : Option Addr} {sl10 : Array (Option Value)} {oc10 kV10 dc10 pm10 cd10 ct10 : Value}
    (a10 : PySem.W.nsIn K mainGlobals "need_caps" = some (some (.ref f10))) (l10 : K.lookup f10 = some ⟨oc10, od10, .func (PySem.W.fnOf "need_caps" "need_caps" (defArgs st_need_caps) (defBody st_need_caps) (defScope st_need_caps) .none kV10 dc10 pm10 an10 cd10 ct10), sl10⟩) (c10 : PySem.W.codeIn K cd10 "need_caps" = true) (k10 : PySem.W.keepIn K (.ref f10) = true)
    {od11 an11 : Option Addr} {sl11 : Array (Option Value)} {oc11 kV11 dc11 pm11 cd11 ct11 : Value}
    (a11 : PySem.W.nsIn K mainGlobals "poured" = some (some (.ref f11))) (l11 : K.lookup f11 = some ⟨oc11, od11, .func (PySem.W.fnOf "poured" "poured" (defArgs st_poured) (defBody st_poured) (defScope st_poured) .none kV11 dc11 pm11 an11 cd11 ct11), sl11⟩) (c11 : PySem.W.codeIn K cd11 "poured" = true) (k11 : PySem.W.keepIn K (.ref f11) = true)
    {od12 an12 : Option Addr} {sl12 : Array (Option Value)} {oc12 kV12 dc12 pm12 cd12 ct12 : Value}
    (a12 : PySem.W.nsIn K mainGlobals "drawn" = some (some (.ref f12))) (l12 : K.lookup f12 = some ⟨oc12, od12, .func (PySem.W.fnOf "drawn" "drawn" (defArgs st_drawn) (defBody st_drawn) (defScope st_drawn) .none kV12 dc12 pm12 an12 cd12 ct12), sl12⟩) (c12 : PySem.W.codeIn K cd12 "drawn" = true) (k12 : PySem.W.keepIn K (.ref f12) = true)
    {od13 an13 : Option Addr} {sl13 : Array (Option Value)} {oc13 kV13 dc13 pm13 cd13 ct13 : Value}
    (a13 : PySem.W.nsIn K mainGlobals "vessels" = some (some (.ref f13))) (l13 : K.lookup f13 = some ⟨oc13, od13, .func (PySem.W.fnOf "vessels" "vessels" (defArgs st_vessels) (defBody st_vessels) (defScope st_vessels) .none kV13 dc13 pm13 an13 cd13 ct13), sl13⟩) (c13 : PySem.W.codeIn K cd13 "vessels" = true) (k13 : PySem.W.keepIn K (.ref f13) = true)
    {od14 an14 : Option Addr} {sl14 : Array (Option Value)} {oc14 kV14 dc14 pm14 cd14 ct14 : Value}
    (a14 : PySem.W.nsIn K mainGlobals "_law_cask" = some (some (.ref f14))) (l14 : K.lookup f14 = some ⟨oc14, od14, .func (PySem.W.fnOf "_law_cask" "_law_cask" (defArgs st__law_cask) (defBody st__law_cask) (defScope st__law_cask) .none kV14 dc14 pm14 an14 cd14 ct14), sl14⟩) (c14 : PySem.W.codeIn K cd14 "_law_cask" = true) (k14 : PySem.W.keepIn K (.ref f14) = true)
    {od15 an15 : Option Addr} {sl15 : Array (Option Value)} {oc15 kV15 dc15 pm15 cd15 ct15 : Value}
    (a15 : PySem.W.nsIn K mainGlobals "_law_tap" = some (some (.ref f15))) (l15 : K.lookup f15 = some ⟨oc15, od15, .func (PySem.W.fnOf "_law_tap" "_law_tap" (defArgs st__law_tap) (defBody st__law_tap) (defScope st__law_tap) .none kV15 dc15 pm15 an15 cd15 ct15), sl15⟩) (c15 : PySem.W.codeIn K cd15 "_law_tap" = true) (k15 : PySem.W.keepIn K (.ref f15) = true)
    {od16 an16 : Option Addr} {sl16 : Array (Option Value)} {oc16 kV16 dc16 pm16 cd16 ct16 : Value}
    (a16 : PySem.W.nsIn K mainGlobals "_law_days" = some (some (.ref f16))) (l16 : K.lookup f16 = some ⟨oc16, od16, .func (PySem.W.fnOf "_law_days" "_law_days" (defArgs st__law_days) (defBody st__law_days) (defScope st__law_days) .none kV16 dc16 pm16 an16 cd16 ct16), sl16⟩) (c16 : PySem.W.codeIn K cd16 "_law_days" = true) (k16 : PySem.W.keepIn K (.ref f16) = true)
    {od17 an17 : Option Addr} {sl17 : Array (Option Value)} {oc17 kV17 dc17 pm17 cd17 ct17 : Value}
    (a17 : PySem.W.nsIn K mainGlobals "_law_brims" = some (some (.ref f17))) (l17 : K.lookup f17 = some ⟨oc17, od17, .func (PySem.W.fnOf "_law_brims" "_law_brims" (defArgs st__law_brims) (defBody st__law_brims) (defScope st__law_brims) .none kV17 dc17 pm17 an17 cd17 ct17), sl17⟩) (c17 : PySem.W.codeIn K cd17 "_law_brims" = true) (k17 : PySem.W.keepIn K (.ref f17) = true)
    {od18 an18 : Option Addr} {sl18 : Array (Option Value)} {oc18 kV18 dc18 pm18 cd18 ct18 : Value}
    (a18 : PySem.W.nsIn K mainGlobals "law" = some (some (.ref f18))) (l18 : K.lookup f18 = some ⟨oc18, od18, .func (PySem.W.fnOf "law" "law" (defArgs st_law) (defBody st_law) (defScope st_law) .none kV18 dc18 pm18 an18 cd18 ct18), sl18⟩) (c18 : PySem.W.codeIn K cd18 "law" = true) (k18 : PySem.W.keepIn K (.ref f18) = true)
    {u0 : Value} (y0 : PySem.W.nsIn K mainGlobals "MOST_VESSELS" = some (some u0)) (w0 : RelV (.int 12) u0)
    (z0 : PySem.W.nsIn K mainGlobals "len" = some none)
    (z1 : PySem.W.nsIn K mainGlobals "abs" = some none)
    (z2 : PySem.W.nsIn K mainGlobals "sum" = some none)
    (z3 : PySem.W.nsIn K mainGlobals "max" = some none)
    (z4 : PySem.W.nsIn K mainGlobals "min" = some none)
    (z5 : PySem.W.nsIn K mainGlobals "sorted" = some none)
    (z6 : PySem.W.nsIn K mainGlobals "list" = some none)
    (z7 : PySem.W.nsIn K mainGlobals "tuple" = some none)
    (z8 : PySem.W.nsIn K mainGlobals "int" = some none)
    (z9 : PySem.W.nsIn K mainGlobals "all" = some none)
    (z10 : PySem.W.nsIn K mainGlobals "any" = some none)
    (z11 : PySem.W.nsIn K mainGlobals "isinstance" = some none)
    (z12 : PySem.W.nsIn K mainGlobals "bool" = some none)
    (z13 : PySem.W.nsIn K mainGlobals "str" = some none)
    (z14 : PySem.W.nsIn K mainGlobals "range" = some none)
    (z15 : PySem.W.nsIn K mainGlobals "enumerate" = some none)
    (z16 : PySem.W.nsIn K mainGlobals "zip" = some none)
    (z17 : PySem.W.nsIn K mainGlobals "repr" = some none)
    (z18 : PySem.W.nsIn K mainGlobals "set" = some none)
    : ∃ fd : FuncData, (∀ (s : Shared) (v : Value), BindsTo s fd ⟨[v], []⟩ [("script", v)]) ∧ ∀ base : Heap, K.In base → base.Ns mainGlobals mg → FnOk l.prog w K mg base CX0 6 fa fd ["script"] (spRO K 1 F_law) := by
  have e := hfa.symm.trans (PySem.W.mg_of X G a18)
  cases e
  have hb : ∀ x ∈ bltNames, mg x = none := by
    intro x hx
    simp only [bltNames, List.mem_cons, List.not_mem_nil, or_false] at hx
    rcases hx with rfl | rfl | rfl | rfl | rfl | rfl | rfl | rfl | rfl | rfl | rfl | rfl | rfl | rfl | rfl | rfl | rfl | rfl | rfl
    · exact PySem.W.mg_none_of X G z0
    · exact PySem.W.mg_none_of X G z1
    · exact PySem.W.mg_none_of X G z2
    · exact PySem.W.mg_none_of X G z3
    · exact PySem.W.mg_none_of X G z4
    · exact PySem.W.mg_none_of X G z5
    · exact PySem.W.mg_none_of X G z6
    · exact PySem.W.mg_none_of X G z7
    · exact PySem.W.mg_none_of X G z8
    · exact PySem.W.mg_none_of X G z9
    · exact PySem.W.mg_none_of X G z10
    · exact PySem.W.mg_none_of X G z11
    · exact PySem.W.mg_none_of X G z12
    · exact PySem.W.mg_none_of X G z13
    · exact PySem.W.mg_none_of X G z14
    · exact PySem.W.mg_none_of X G z15
    · exact PySem.W.mg_none_of X G z16
    · exact PySem.W.mg_none_of X G z17
    · exact PySem.W.mg_none_of X G z18
  have F0 := fun_mk (st := st_is_whole) l0 c0 k0
  have b0 := F0.binds (ps := ["thing"]) fun _ _ _ _ _ _ us hl => match us, hl with | [_], _ => rfl
  have F1 := fun_mk (st := st_is_amount) l1 c1 k1
  have b1 := F1.binds (ps := ["thing"]) fun _ _ _ _ _ _ us hl => match us, hl with | [_], _ => rfl
  have F2 := fun_mk (st := st_is_days) l2 c2 k2
  have b2 := F2.binds (ps := ["thing"]) fun _ _ _ _ _ _ us hl => match us, hl with | [_], _ => rfl
  have F3 := fun_mk (st := st_need_days) l3 c3 k3
  have b3 := F3.binds (ps := ["days"]) fun _ _ _ _ _ _ us hl => match us, hl with | [_], _ => rfl
  have F4 := fun_mk (st := st_need_cap) l4 c4 k4
  have b4 := F4.binds (ps := ["cap"]) fun _ _ _ _ _ _ us hl => match us, hl with | [_], _ => rfl
  have F5 := fun_mk (st := st_need_start) l5 c5 k5
  have b5 := F5.binds (ps := ["cap", "start"]) fun _ _ _ _ _ _ us hl => match us, hl with | [_, _], _ => rfl
  have F6 := fun_mk (st := st_stepped) l6 c6 k6
  have b6 := F6.binds (ps := ["content", "day", "cap"]) fun _ _ _ _ _ _ us hl => match us, hl with | [_, _, _], _ => rfl
  have F7 := fun_mk (st := st_ran) l7 c7 k7
  have b7 := F7.binds (ps := ["days", "cap", "start"]) fun _ _ _ _ _ _ us hl => match us, hl with | [_, _, _], _ => rfl
  have F8 := fun_mk (st := st_need_run) l8 c8 k8
  have b8 := F8.binds (ps := ["days", "cap", "start"]) fun _ _ _ _ _ _ us hl => match us, hl with | [_, _, _], _ => rfl
  have F9 := fun_mk (st := st_run) l9 c9 k9
  have b9 := F9.binds (ps := ["days", "cap", "start"]) fun _ _ _ _ _ _ us hl => match us, hl with | [_, _, _], _ => rfl
  have F10 := fun_mk (st := st_need_caps) l10 c10 k10
  have b10 := F10.binds (ps := ["caps"]) fun _ _ _ _ _ _ us hl => match us, hl with | [_], _ => rfl
  have F11 := fun_mk (st := st_poured) l11 c11 k11
  have b11 := F11.binds (ps := ["contents", "caps", "day"]) fun _ _ _ _ _ _ us hl => match us, hl with | [_, _, _], _ => rfl
  have F12 := fun_mk (st := st_drawn) l12 c12 k12
  have b12 := F12.binds (ps := ["contents", "day"]) fun _ _ _ _ _ _ us hl => match us, hl with | [_, _], _ => rfl
  have F13 := fun_mk (st := st_vessels) l13 c13 k13
  have b13 := F13.binds (ps := ["days", "caps"]) fun _ _ _ _ _ _ us hl => match us, hl with | [_, _], _ => rfl
  have F14 := fun_mk (st := st__law_cask) l14 c14 k14
  have b14 := F14.binds (ps := ["script", "k"]) fun _ _ _ _ _ _ us hl => match us, hl with | [_, _], _ => rfl
  have F15 := fun_mk (st := st__law_tap) l15 c15 k15
  have b15 := F15.binds (ps := ["cask", "wide"]) fun _ _ _ _ _ _ us hl => match us, hl with | [_, _], _ => rfl
  have F16 := fun_mk (st := st__law_days) l16 c16 k16
  have b16 := F16.binds (ps := ["cask", "most", "wide"]) fun _ _ _ _ _ _ us hl => match us, hl with | [_, _, _], _ => rfl
  have F17 := fun_mk (st := st__law_brims) l17 c17 k17
  have b17 := F17.binds (ps := ["cask", "wide"]) fun _ _ _ _ _ _ us hl => match us, hl with | [_, _], _ => rfl
  have F18 := fun_mk (st := st_law) l18 c18 k18
  refine ⟨PySem.W.fnOf "law" "law" (defArgs st_law) (defBody st_law) (defScope st_law) .none kV18 dc18 pm18 an18 cd18 ct18, fun s v => .of_eq rfl, fun base _ _ => ?_⟩
  have e0 : ∀ k, okV ⟨l.prog, w, K, mg, base, k, hb⟩ "MOST_VESSELS" (.int 12) := fun k => ⟨(.int 12), u0, PySem.W.mg_of X G y0, w0, (.int _), rfl⟩
  have s0 : okS ⟨l.prog, w, K, mg, base, 0, hb⟩ B_is_whole := by
    unfold B_is_whole
    simp only [okS, okC, flatD, and_self]
  have G0 : FnOk l.prog w K mg base CX0 1 _ _ ["thing"] (spP 1 F_is_whole) := fn_ok hb F0 sc_is_whole ck_is_whole s0
  have q0 : ∀ k, 1 ≤ k → okF ⟨l.prog, w, K, mg, base, k, hb⟩ "is_whole" F_is_whole := fun k hk => okF_of (ps := ["thing"]) hk F0 (PySem.W.mg_of X G a0) b0 G0
  have s1 : okS ⟨l.prog, w, K, mg, base, 1, hb⟩ B_is_amount := by
    unfold B_is_amount
    simp only [okS, okC, flatD, and_self, q0 1 (by decide)]
  have G1 : FnOk l.prog w K mg base CX0 2 _ _ ["thing"] (spP 1 F_is_amount) := fn_ok hb F1 sc_is_amount ck_is_amount s1
  have q1 : ∀ k, 2 ≤ k → okF ⟨l.prog, w, K, mg, base, k, hb⟩ "is_amount" F_is_amount := fun k hk => okF_of (ps := ["thing"]) hk F1 (PySem.W.mg_of X G a1) b1 G1
  have s2 : okS ⟨l.prog, w, K, mg, base, 1, hb⟩ B_is_days := by
    unfold B_is_days
    simp only [okS, okC, flatD, and_self, L1_is_days, q0 1 (by decide)]
  have G2 : FnOk l.prog w K mg base CX0 2 _ _ ["thing"] (spP 1 F_is_days) := fn_ok hb F2 sc_is_days ck_is_days s2
  have q2 : ∀ k, 2 ≤ k → okF ⟨l.prog, w, K, mg, base, k, hb⟩ "is_days" F_is_days := fun k hk => okF_of (ps := ["thing"]) hk F2 (PySem.W.mg_of X G a2) b2 G2
  have s3 : okS ⟨l.prog, w, K, mg, base, 2, hb⟩ B_need_days := by
    unfold B_need_days
    simp only [okS, okC, flatD, and_self, q2 2 (by decide)]
  have G3 : FnOk l.prog w K mg base CX0 3 _ _ ["days"] (spP 1 F_need_days) := fn_ok hb F3 sc_need_days ck_need_days s3
  have q3 : ∀ k, 3 ≤ k → okF ⟨l.prog, w, K, mg, base, k, hb⟩ "need_days" F_need_days := fun k hk => okF_of (ps := ["days"]) hk F3 (PySem.W.mg_of X G a3) b3 G3
  have s4 : okS ⟨l.prog, w, K, mg, base, 2, hb⟩ B_need_cap := by
    unfold B_need_cap
    simp only [okS, okC, flatD, and_self, q1 2 (by decide)]
  have G4 : FnOk l.prog w K mg base CX0 3 _ _ ["cap"] (spP 1 F_need_cap) := fn_ok hb F4 sc_need_cap ck_need_cap s4
  have q4 : ∀ k, 3 ≤ k → okF ⟨l.prog, w, K, mg, base, k, hb⟩ "need_cap" F_need_cap := fun k hk => okF_of (ps := ["cap"]) hk F4 (PySem.W.mg_of X G a4) b4 G4
  have s5 : okS ⟨l.prog, w, K, mg, base, 2, hb⟩ B_need_start := by
    unfold B_need_start
    simp only [okS, okC, flatD, and_self, q1 2 (by decide)]
  have G5 : FnOk l.prog w K mg base CX0 3 _ _ ["cap", "start"] (spP 2 F_need_start) := fn_ok hb F5 sc_need_start ck_need_start s5
  have q5 : ∀ k, 3 ≤ k → okF ⟨l.prog, w, K, mg, base, k, hb⟩ "need_start" F_need_start := fun k hk => okF_of (ps := ["cap", "start"]) hk F5 (PySem.W.mg_of X G a5) b5 G5
  have s6 : okS ⟨l.prog, w, K, mg, base, 0, hb⟩ B_stepped := by
    unfold B_stepped
    simp only [okS, okC, flatD, and_self]
  have G6 : FnOk l.prog w K mg base CX0 1 _ _ ["content", "day", "cap"] (spP 3 F_stepped) := fn_ok hb F6 sc_stepped ck_stepped s6
  have q6 : ∀ k, 1 ≤ k → okF ⟨l.prog, w, K, mg, base, k, hb⟩ "stepped" F_stepped := fun k hk => okF_of (ps := ["content", "day", "cap"]) hk F6 (PySem.W.mg_of X G a6) b6 G6
  have s7 : okS ⟨l.prog, w, K, mg, base, 1, hb⟩ B_ran := by
    unfold B_ran
    simp only [okS, okC, flatD, and_self, Y1_ran, W1_ran, q6 1 (by decide)]
  have G7 : FnOk l.prog w K mg base CX0 2 _ _ ["days", "cap", "start"] (spP 3 F_ran) := fn_ok hb F7 sc_ran ck_ran s7
  have q7 : ∀ k, 2 ≤ k → okF ⟨l.prog, w, K, mg, base, k, hb⟩ "ran" F_ran := fun k hk => okF_of (ps := ["days", "cap", "start"]) hk F7 (PySem.W.mg_of X G a7) b7 G7
  have s8 : okS ⟨l.prog, w, K, mg, base, 3, hb⟩ B_need_run := by
    unfold B_need_run
    simp only [okS, okC, flatD, and_self, q3 3 (by decide), q4 3 (by decide), q5 3 (by decide)]
  have G8 : FnOk l.prog w K mg base CX0 4 _ _ ["days", "cap", "start"] (spP 3 F_need_run) := fn_ok hb F8 sc_need_run ck_need_run s8
  have q8 : ∀ k, 4 ≤ k → okF ⟨l.prog, w, K, mg, base, k, hb⟩ "need_run" F_need_run := fun k hk => okF_of (ps := ["days", "cap", "start"]) hk F8 (PySem.W.mg_of X G a8) b8 G8
  have s9 : okS ⟨l.prog, w, K, mg, base, 4, hb⟩ B_run := by
    unfold B_run
    simp only [okS, okC, flatD, and_self, q8 4 (by decide), q7 4 (by decide)]
  have G9 : FnOk l.prog w K mg base CX0 5 _ _ ["days", "cap", "start"] (spP 3 F_run) := fn_ok hb F9 sc_run ck_run s9
  have q9 : ∀ k, 5 ≤ k → okF ⟨l.prog, w, K, mg, base, k, hb⟩ "run" F_run := fun k hk => okF_of (ps := ["days", "cap", "start"]) hk F9 (PySem.W.mg_of X G a9) b9 G9
  have s10 : okS ⟨l.prog, w, K, mg, base, 2, hb⟩ B_need_caps := by
    unfold B_need_caps
    simp only [okS, okC, flatD, and_self, L1_need_caps, q1 2 (by decide), e0 2]
  have G10 : FnOk l.prog w K mg base CX0 3 _ _ ["caps"] (spP 1 F_need_caps) := fn_ok hb F10 sc_need_caps ck_need_caps s10
  have q10 : ∀ k, 3 ≤ k → okF ⟨l.prog, w, K, mg, base, k, hb⟩ "need_caps" F_need_caps := fun k hk => okF_of (ps := ["caps"]) hk F10 (PySem.W.mg_of X G a10) b10 G10
  have s11 : okS ⟨l.prog, w, K, mg, base, 0, hb⟩ B_poured := by
    unfold B_poured
    simp only [okS, okC, flatD, and_self, Y1_poured, W1_poured]
  have G11 : FnOk l.prog w K mg base CX0 1 _ _ ["contents", "caps", "day"] (spP 3 F_poured) := fn_ok hb F11 sc_poured ck_poured s11
  have q11 : ∀ k, 1 ≤ k → okF ⟨l.prog, w, K, mg, base, k, hb⟩ "poured" F_poured := fun k hk => okF_of (ps := ["contents", "caps", "day"]) hk F11 (PySem.W.mg_of X G a11) b11 G11
  have s12 : okS ⟨l.prog, w, K, mg, base, 0, hb⟩ B_drawn := by
    unfold B_drawn
    simp only [okS, okC, flatD, and_self, Y1_drawn, W1_drawn]
  have G12 : FnOk l.prog w K mg base CX0 1 _ _ ["contents", "day"] (spP 2 F_drawn) := fn_ok hb F12 sc_drawn ck_drawn s12
  have q12 : ∀ k, 1 ≤ k → okF ⟨l.prog, w, K, mg, base, k, hb⟩ "drawn" F_drawn := fun k hk => okF_of (ps := ["contents", "day"]) hk F12 (PySem.W.mg_of X G a12) b12 G12
  have s13 : okS ⟨l.prog, w, K, mg, base, 3, hb⟩ B_vessels := by
    unfold B_vessels
    simp only [okS, okC, flatD, and_self, Y1_vessels, W1_vessels, q3 3 (by decide), q10 3 (by decide), q11 3 (by decide), q12 3 (by decide)]
  have G13 : FnOk l.prog w K mg base CX0 4 _ _ ["days", "caps"] (spP 2 F_vessels) := fn_ok hb F13 sc_vessels ck_vessels s13
  have q13 : ∀ k, 4 ≤ k → okF ⟨l.prog, w, K, mg, base, k, hb⟩ "vessels" F_vessels := fun k hk => okF_of (ps := ["days", "caps"]) hk F13 (PySem.W.mg_of X G a13) b13 G13
  have s14 : okS ⟨l.prog, w, K, mg, base, 0, hb⟩ B__law_cask := by
    unfold B__law_cask
    simp only [okS, okC, flatD, and_self]
  have G14 : FnOk l.prog w K mg base CX0 1 _ _ ["script", "k"] (spRN K 2 F__law_cask) := fnRN_ok hb F14 sc__law_cask ck__law_cask s14
  have q14 : ∀ k, 1 ≤ k → okRN ⟨l.prog, w, K, mg, base, k, hb⟩ "_law_cask" F__law_cask := fun k hk => okRN_of (ps := ["script", "k"]) hk F14 (PySem.W.mg_of X G a14) b14 G14
  have s15 : okS ⟨l.prog, w, K, mg, base, 0, hb⟩ B__law_tap := by
    unfold B__law_tap
    simp only [okS, okC, flatD, and_self]
  have G15 : FnOk l.prog w K mg base CX0 1 _ _ ["cask", "wide"] (spIO 2 F__law_tap) := fnI_ok hb F15 sc__law_tap ck__law_tap (by decide +kernel) s15
  have q15 : ∀ k, 1 ≤ k → okG ⟨l.prog, w, K, mg, base, k, hb⟩ "_law_tap" F__law_tap := fun k hk => okG_of (ps := ["cask", "wide"]) hk F15 (PySem.W.mg_of X G a15) b15 G15
  have s16 : okS ⟨l.prog, w, K, mg, base, 1, hb⟩ B__law_days := by
    unfold B__law_days
    simp only [okS, okC, flatD, and_self, Y1__law_days, W1__law_days, q15 1 (by decide)]
  have G16 : FnOk l.prog w K mg base CX0 2 _ _ ["cask", "most", "wide"] (spIO 3 F__law_days) := fnI_ok hb F16 sc__law_days ck__law_days (by decide +kernel) s16
  have q16 : ∀ k, 2 ≤ k → okG ⟨l.prog, w, K, mg, base, k, hb⟩ "_law_days" F__law_days := fun k hk => okG_of (ps := ["cask", "most", "wide"]) hk F16 (PySem.W.mg_of X G a16) b16 G16
  have s17 : okS ⟨l.prog, w, K, mg, base, 1, hb⟩ B__law_brims := by
    unfold B__law_brims
    simp only [okS, okC, flatD, and_self, Y1__law_brims, W1__law_brims, q15 1 (by decide)]
  have G17 : FnOk l.prog w K mg base CX0 2 _ _ ["cask", "wide"] (spIO 2 F__law_brims) := fnI_ok hb F17 sc__law_brims ck__law_brims (by decide +kernel) s17
  have q17 : ∀ k, 2 ≤ k → okG ⟨l.prog, w, K, mg, base, k, hb⟩ "_law_brims" F__law_brims := fun k hk => okG_of (ps := ["cask", "wide"]) hk F17 (PySem.W.mg_of X G a17) b17 G17
  have s18 : okS ⟨l.prog, w, K, mg, base, 5, hb⟩ B_law := by
    unfold B_law
    simp only [okS, okC, flatD, and_self, L1_law, L2_law, Y1_law, W1_law, L3_law, L4_law, L5_law, L6_law, L7_law, Y2_law, W2_law, Y3_law, W3_law, q14 5 (by decide), q16 5 (by decide), q17 5 (by decide), q13 5 (by decide), q9 5 (by decide), q15 5 (by decide)]
  have G18 : FnOk l.prog w K mg base CX0 6 _ _ ["script"] (spRO K 1 F_law) := fnR_ok hb F18 sc_law ck_law s18
  exact G18
end Sm
open PySem PySem.W PyProof.Rows
set_option maxHeartbeats 0 in
theorem PySem.Challenge.cw_spillmirror_k32_whole_tanks_within_tanks_holds : PySem.Challenge.rw_spillmirror_k32_whole_tanks_within_tanks.Holds := by
  w_on; o_law; k_head; (case hw => w_witness2)
  k_fill
  refine L2.walk_of (l := PySem.Challenge.rw_spillmirror_k32_whole_tanks_within_tanks) (n := 63) (k := 6) (x := "script") (CX := fun _ => L2.CX0) (sp := fun w => Sm.spRO _ 1 Sm.F_law) rfl (by decide) rfl ⟨rfl, by decide, by decide⟩ (fun w h Y => PySem.W.kIn_of Y) ?F (fun _ H a ns hl hO hS => Sm.law_sp hO hS (Sm.law_true ns hl)) (fun _ _ _ _ _ h => h)
  case F =>
    intro w mg fa h KX G hmg
    refine' Sm.all_mk KX G hmg ?a0 ?l0 ?c0 ?k0 ?a1 ?l1 ?c1 ?k1 ?a2 ?l2 ?c2 ?k2 ?a3 ?l3 ?c3 ?k3 ?a4 ?l4 ?c4 ?k4 ?a5 ?l5 ?c5 ?k5 ?a6 ?l6 ?c6 ?k6 ?a7 ?l7 ?c7 ?k7 ?a8 ?l8 ?c8 ?k8 ?a9 ?l9 ?c9 ?k9 ?a10 ?l10 ?c10 ?k10 ?a11 ?l11 ?c11 ?k11 ?a12 ?l12 ?c12 ?k12 ?a13 ?l13 ?c13 ?k13 ?a14 ?l14 ?c14 ?k14 ?a15 ?l15 ?c15 ?k15 ?a16 ?l16 ?c16 ?k16 ?a17 ?l17 ?c17 ?k17 ?a18 ?l18 ?c18 ?k18 ?y0 ?w0 ?z0 ?z1 ?z2 ?z3 ?z4 ?z5 ?z6 ?z7 ?z8 ?z9 ?z10 ?z11 ?z12 ?z13 ?z14 ?z15 ?z16 ?z17 ?z18
    (case a0 => k_is)
    (case l0 => k_is)
    (case c0 => k_is)
    (case k0 => k_is)
    (case a1 => k_is)
    (case l1 => k_is)
    (case c1 => k_is)
    (case k1 => k_is)
    (case a2 => k_is)
    (case l2 => k_is)
    (case c2 => k_is)
    (case k2 => k_is)
    (case a3 => k_is)
    (case l3 => k_is)
    (case c3 => k_is)
    (case k3 => k_is)
    (case a4 => k_is)
    (case l4 => k_is)
    (case c4 => k_is)
    (case k4 => k_is)
    (case a5 => k_is)
    (case l5 => k_is)
    (case c5 => k_is)
    (case k5 => k_is)
    (case a6 => k_is)
    (case l6 => k_is)
    (case c6 => k_is)
    (case k6 => k_is)
    (case a7 => k_is)
    (case l7 => k_is)
    (case c7 => k_is)
    (case k7 => k_is)
    (case a8 => k_is)
    (case l8 => k_is)
    (case c8 => k_is)
    (case k8 => k_is)
    (case a9 => k_is)
    (case l9 => k_is)
    (case c9 => k_is)
    (case k9 => k_is)
    (case a10 => k_is)
    (case l10 => k_is)
    (case c10 => k_is)
    (case k10 => k_is)
    (case a11 => k_is)
    (case l11 => k_is)
    (case c11 => k_is)
    (case k11 => k_is)
    (case a12 => k_is)
    (case l12 => k_is)
    (case c12 => k_is)
    (case k12 => k_is)
    (case a13 => k_is)
    (case l13 => k_is)
    (case c13 => k_is)
    (case k13 => k_is)
    (case a14 => k_is)
    (case l14 => k_is)
    (case c14 => k_is)
    (case k14 => k_is)
    (case a15 => k_is)
    (case l15 => k_is)
    (case c15 => k_is)
    (case k15 => k_is)
    (case a16 => k_is)
    (case l16 => k_is)
    (case c16 => k_is)
    (case k16 => k_is)
    (case a17 => k_is)
    (case l17 => k_is)
    (case c17 => k_is)
    (case k17 => k_is)
    (case a18 => k_is)
    (case l18 => k_is)
    (case c18 => k_is)
    (case k18 => k_is)
    (case y0 => k_is)
    (case w0 => first | exact ⟨_, rfl⟩ | rfl)
    (case z0 => k_is)
    (case z1 => k_is)
    (case z2 => k_is)
    (case z3 => k_is)
    (case z4 => k_is)
    (case z5 => k_is)
    (case z6 => k_is)
    (case z7 => k_is)
    (case z8 => k_is)
    (case z9 => k_is)
    (case z10 => k_is)
    (case z11 => k_is)
    (case z12 => k_is)
    (case z13 => k_is)
    (case z14 => k_is)
    (case z15 => k_is)
    (case z16 => k_is)
    (case z17 => k_is)
    (case z18 => k_is)
