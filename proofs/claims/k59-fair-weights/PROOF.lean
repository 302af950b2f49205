import PyProof.Rows.All
import Wide.All
import OpenK.AllK
import Wide.FinOn
import HandS.ForMost
import HandS.Zip
import KE.SortData
import KE.DataMinMax
import KE.DataAny
import KE.DataEq
import KE.DataCmp
import HandS.ForExc
import HandS.Flow
import HandS.Style
import HandS.TupAny
import HandS.TupMul
import HandS.Conv
import KE.DataIsa
import HandS.WordsExc
import HandS.Defaults
import HandS.Ends
import HandS.HeadEnd
import HandS.Head0
import HandS.Head1
import HandS.Head2
import HandS.HeadHook1
import HandS.HeadHook2
import PySem.Challenge.RW_wavehouse_k59_whole_fair_weights_that_ba
set_option Elab.async false
set_option autoImplicit false
set_option maxRecDepth 100000
namespace Wv
open PySem L2 PySem.W

/-! ### values, the monad -/
/-- the law's hand: a list of its cells and four numbers -/
structure Hand where
  cells : List Int
  pos : Int
  big : Int
  mix : Int
  cnt : Int
inductive SV where
  | d (p : PyData)
  | hand
inductive R (α : Type) where
  | ok (a : α) (s : Hand)
  | ex (c : Nat) (as : List PyData) (s : Hand)
  | bad
def M (α : Type) : Type := Hand → R α
def M.ret {α : Type} (a : α) : M α := fun s => .ok a s
def M.bnd {α β : Type} (m : M α) (k : α → M β) : M β := fun s =>
  match m s with
  | .ok a s' => k a s'
  | .ex c as s' => .ex c as s'
  | .bad => .bad
instance : Monad M where
  pure := M.ret
  bind := M.bnd
def bad {α : Type} : M α := fun _ => .bad
def lift {α : Type} : Option α → M α
  | some a => M.ret a
  | none => bad
def asD : SV → M PyData
  | .d p => M.ret p
  | .hand => bad
abbrev Env := List (Option SV)

/-! ### the small language -/
inductive Bop | add | sub | mul | fdiv | mod | pow
  deriving DecidableEq
inductive Cop | lt | le | gt | ge | eq | ne | is_ | isn | isin | notin
  deriving DecidableEq
inductive Ty | int | bool | str | tuple | list | dict
  deriving DecidableEq
inductive Bi | len | sum | any | all | max | min | sorted | tuple | list | abs | int
  deriving DecidableEq
inductive Tgt
  | one (i : Nat)
  | tup (ts : List Tgt)
mutual
inductive Ex
  | v (i : Nat)
  | c (d : PyData)
  | g (d : PyData)
  | bin (o : Bop) (a b : Ex)
  | cmp (o : Cop) (a b : Ex)
  | chain (o p : Cop) (a b c : Ex)
  | and (a b : Ex)
  | or (a b : Ex)
  | not (a : Ex)
  | ite (c a b : Ex)
  | tup (es : List Ex)
  | lst (es : List Ex)
  | idx (a i : Ex)
  | slice (a : Ex) (lo hi : Option Ex)
  | call (f : Nat) (es : List Ex)
  | bi (b : Bi) (es : List Ex)
  | lrange (es : List Ex)
  | isi (a : Ex) (t : Ty)
  | comp (tg : Tgt) (own : List Nat) (it : It) (cd : Option Ex) (e : Ex)
  | comp2 (tg : Tgt) (own : List Nat) (it : It) (cd : Option Ex) (tg1 : Tgt) (own1 : List Nat) (it1 : It) (cd1 : Option Ex) (e : Ex)
inductive It
  | ex (e : Ex)
  | range (es : List Ex)
  | enum (e : Ex)
  | zip (a b : Ex)
end
inductive St
  | set (fl : Bool) (i : Nat) (e : Ex)
  | setL (i : Nat) (e : Ex)
  | move (i j : Nat)
  | par (is : List Nat) (es : List Ex)
  | unp (fl : Bool) (tg : Tgt) (e : Ex)
  | app (fl : Bool) (i : Nat) (e : Ex)
  | ext (fl : Bool) (i : Nat) (e : Ex)
  | seti (fl : Bool) (i : Nat) (k e : Ex)
  | setH (i : Nat) (k e : Ex)
  | augi (i : Nat) (k : Ex) (o : Bop) (e : Ex)
  | aug (i : Nat) (o : Bop) (e : Ex)
  | ite (c : Ex) (a b : List St)
  | for_ (tg : Tgt) (it : It) (body : List St)
  | whl (c : Ex) (body : List St)
  | ret (e : Ex)
  | brk | cont | pass
  | drop (e : Ex)
  | raise (c : Nat) (es : List Ex)
  | never
structure Fn where
  n : Nat
  np : Nat
  ms : List Nat
  body : List St

/-! ### what the operations do on data -/
def truthy : PyData → Option Bool
  | .none => some false
  | .bool b => some b
  | .int i => some (i != 0)
  | .str s => if s.length ≤ sizeLine then some (s.length != 0) else none
  | .list xs => some (!xs.isEmpty)
  | .tuple xs => some (!xs.isEmpty)
  | .dict _ => none
def mulOk (i j : Int) : Bool := (decide (-(2 ^ 64) < i) && decide (i < 2 ^ 64)) || (decide (-(2 ^ 64) < j) && decide (j < 2 ^ 64))
def repOk (n : Nat) (k : Int) : Bool := decide (-(2 ^ 63) ≤ k) && decide (k < 2 ^ 63) && decide (n * k.toNat ≤ sizeLine)
def rep (xs : List PyData) (k : Int) : List PyData := (List.replicate k.toNat xs).flatten
def binop : Bop → PyData → PyData → Option PyData
  | .add, .int i, .int j => some (.int (i + j))
  | .add, .str x, .str y => if x.length + y.length ≤ sizeLine then some (.str (x ++ y)) else none
  | .add, .list xs, .list ys => if xs.length + ys.length ≤ sizeLine then some (.list (xs ++ ys)) else none
  | .add, .tuple xs, .tuple ys => if xs.length + ys.length ≤ sizeLine then some (.tuple (xs ++ ys)) else none
  | .sub, .int i, .int j => some (.int (i - j))
  | .mul, .int i, .int j => if mulOk i j then some (.int (i * j)) else none
  | .mul, .list xs, .int k => if repOk xs.length k then some (.list (rep xs k)) else none
  | .mul, .tuple xs, .int k => if repOk xs.length k then some (.tuple (rep xs k)) else none
  | .fdiv, .int i, .int j => if decide (j ≠ 0) && decide (j.natAbs < 1073741824) then some (.int (i.fdiv j)) else none
  | .mod, .int i, .int j => if decide (j ≠ 0) then some (.int (i.fmod j)) else none
  | .pow, .int i, .int j => if decide (0 ≤ j) && decide (j ≤ 1000000) && decide (i.natAbs < 2 ^ 64) then some (.int (i ^ j.toNat)) else none
  | _, _, _ => none
/-- what may be compared by order: alike, not None -/
def isNone : PyData → Bool
  | .none => true
  | _ => false
def ordOk (d e : PyData) : Bool := !isNone d && alike d e && decide (d.depth ≤ 60)
def isOp : PyData → PyData → Option Bool
  | .none, .none => some true
  | _, .none => some false
  | .bool a, .bool b => some (a == b)
  | .none, .bool _ => some false
  | .int _, .bool _ => some false
  | .str _, .bool _ => some false
  | .list _, .bool _ => some false
  | .tuple _, .bool _ => some false
  | _, _ => none
def inOp (d : PyData) : PyData → Option Bool
  | .list ds => if decide (d.depth ≤ 60) then some (ds.any fun x => PyData.eqv x d) else none
  | .tuple ds => if decide (d.depth ≤ 60) then some (ds.any fun x => PyData.eqv x d) else none
  | _ => none
def ltD (d e : PyData) : Option Bool := match d, e with
  | .int i, .int j => some (decide (i < j))
  | d, e => if ordOk d e then some (dataLt d e) else none
def eqD (d e : PyData) : Option Bool := match d, e with
  | .int i, .int j => some (decide (i = j))
  | d, e => if decide (min d.depth e.depth ≤ 60) then some (PyData.eqv d e) else none
def cmpop : Cop → PyData → PyData → Option Bool
  | .lt, d, e => ltD d e
  | .gt, d, e => match d, e with
    | .int i, .int j => some (decide (j < i))
    | d, e => if ordOk d e then some (dataLt e d) else none
  | .le, d, e => match d, e with
    | .int i, .int j => some (decide (i ≤ j))
    | d, e => if ordOk d e then some (!dataLt e d) else none
  | .ge, d, e => match d, e with
    | .int i, .int j => some (decide (j ≤ i))
    | d, e => if ordOk d e then some (!dataLt d e) else none
  | .eq, d, e => eqD d e
  | .ne, d, e => (eqD d e).map (!·)
  | .is_, d, e => isOp d e
  | .isn, d, e => (isOp d e).map (!·)
  | .isin, d, e => inOp d e
  | .notin, d, e => (inOp d e).map (!·)
def isTy : Ty → PyData → Bool
  | .int, .int _ => true
  | .int, .bool _ => true
  | .bool, .bool _ => true
  | .str, .str _ => true
  | .tuple, .tuple _ => true
  | .list, .list _ => true
  | .dict, .dict _ => true
  | _, _ => false
def ints? : List PyData → Option (List Int)
  | [] => some []
  | .int i :: r => (ints? r).map (i :: ·)
  | _ :: _ => none
def bools? : List PyData → Option (List Bool)
  | [] => some []
  | .bool b :: r => (bools? r).map (b :: ·)
  | _ :: _ => none
def alikeAllB (ds : List PyData) : Bool := ds.all fun x => !isNone x && ds.all fun y => alike x y
def depthOk (ds : List PyData) : Bool := decide (PyData.depthAll ds ≤ 40)
def isTup1 : PyData → Bool
  | .tuple (_ :: _) => true
  | _ => false
def isTup : PyData → Bool
  | .tuple _ => true
  | _ => false
def isTup0 : List PyData → Bool
  | .tuple [] :: _ => true
  | _ => false
/-- tuples with an item at least; or no tuples; or tuples, an empty one first -/
def sortableB (ds : List PyData) : Bool := ds.all isTup1 || (ds.all fun x => !isTup x) || (isTup0 ds && ds.all isTup)
def sortD (ds : List PyData) : List PyData := ds.mergeSort (PySem.W.dataLe false fun d => d)
def idxN (xs : List PyData) (i : Int) : Option PyData := atI xs i
def bLen : List PyData → Option PyData
  | [.str s] => if s.length ≤ sizeLine then some (.int s.length) else none
  | [.list xs] => some (.int xs.length)
  | [.tuple xs] => some (.int xs.length)
  | _ => none
def bSum : List PyData → Option PyData
  | [.list xs] => (ints? xs).map fun ns => .int ns.sum
  | [.tuple xs] => (ints? xs).map fun ns => .int ns.sum
  | _ => none
def bAny : List PyData → Option PyData
  | [.list xs] => (bools? xs).map fun bs => .bool (bs.any id)
  | _ => none
def bAll : List PyData → Option PyData
  | [.list xs] => (bools? xs).map fun bs => .bool (bs.all id)
  | _ => none
def bMax : List PyData → Option PyData
  | [.int i, .int j] => some (.int (if j > i then j else i))
  | [.list (x :: xs)] => if alikeAllB (x :: xs) && depthOk (x :: xs) then some (PySem.W.maxD x xs) else none
  | [.tuple (x :: xs)] => if alikeAllB (x :: xs) && depthOk (x :: xs) then some (PySem.W.maxD x xs) else none
  | _ => none
def bMin : List PyData → Option PyData
  | [.int i, .int j] => some (.int (if j < i then j else i))
  | [.list (x :: xs)] => if alikeAllB (x :: xs) && depthOk (x :: xs) then some (PySem.W.minD x xs) else none
  | [.tuple (x :: xs)] => if alikeAllB (x :: xs) && depthOk (x :: xs) then some (PySem.W.minD x xs) else none
  | _ => none
def bSorted : List PyData → Option PyData
  | [.list xs] => if alikeAllB xs && depthOk xs && sortableB xs then some (.list (sortD xs)) else none
  | _ => none
def bTuple : List PyData → Option PyData
  | [.list xs] => some (.tuple xs)
  | [.tuple xs] => some (.tuple xs)
  | _ => none
def bList : List PyData → Option PyData
  | [.list xs] => some (.list xs)
  | [.tuple xs] => some (.list xs)
  | _ => none
def bAbs : List PyData → Option PyData
  | [.int i] => some (.int (if i < 0 then -i else i))
  | _ => none
def bInt : List PyData → Option PyData
  | [.int i] => some (.int i)
  | _ => none
def biop : Bi → List PyData → Option PyData
  | .len => bLen | .sum => bSum | .any => bAny | .all => bAll | .max => bMax | .min => bMin | .sorted => bSorted
  | .tuple => bTuple | .list => bList | .abs => bAbs | .int => bInt
/-- lo, lo + 1, .. below hi -/
def upto (lo hi : Int) : List PyData := (List.range (hi - lo).toNat).map fun k => .int (lo + (k : Nat))
def small62 (i : Int) : Bool := decide (-(2 ^ 62) ≤ i) && decide (i < 2 ^ 62)
def rangeD : List PyData → Option (List PyData)
  | [.int j] => if small62 j && decide (j ≤ 1000000) then some (upto 0 j) else none
  | [.int i, .int j] => if small62 i && small62 j && decide (j - i ≤ 1000000) then some (upto i j) else none
  | _ => none
def seqD : PyData → Option (List PyData)
  | .list xs => some xs
  | .tuple xs => some xs
  | _ => none
def enumFrom (n : Nat) : List PyData → List PyData
  | [] => []
  | x :: xs => .tuple [.int (n : Int), x] :: enumFrom (n + 1) xs
def enumD : PyData → Option (List PyData)
  | .list xs => some (enumFrom 0 xs)
  | _ => none
def pairUp : List PyData → List PyData → List PyData
  | x :: xs, y :: ys => .tuple [x, y] :: pairUp xs ys
  | _, _ => []
def zipD : PyData → PyData → Option (List PyData)
  | .list xs, .list ys => some (pairUp xs ys)
  | .tuple xs, .tuple ys => some (pairUp xs ys)
  | _, _ => none
def handAt (s : Hand) : Int → Option PyData
  | 0 => some (.list (s.cells.map .int))
  | 1 => some (.int s.pos)
  | 2 => some (.int s.big)
  | 3 => some (.int s.mix)
  | 4 => some (.int s.cnt)
  | _ => none
def handSet (s : Hand) : Int → PyData → Option Hand
  | 1, .int i => some { s with pos := i }
  | 2, .int i => some { s with big := i }
  | 3, .int i => some { s with mix := i }
  | 4, .int i => some { s with cnt := i }
  | _, _ => none
def idxop : PyData → PyData → Option PyData
  | .list xs, .int i => idxN xs i
  | .tuple xs, .int i => idxN xs i
  | .str s, .int i => if s.length ≤ sizeLine then (atI s.cps.toList i).map fun c => .str ⟨#[c]⟩ else none
  | _, _ => none
def optInt : Option PyData → Option (Option Int)
  | none => some none
  | some (.int i) => some (some i)
  | some _ => none
def cutD (xs : List PyData) (lo hi : Option Int) : List PyData := (xs.drop (HT.sIx xs.length 0 lo)).take (HT.sIx xs.length xs.length hi - HT.sIx xs.length 0 lo)
def sliceop : PyData → Option Int → Option Int → Option PyData
  | .list xs, lo, hi => some (.list (cutD xs lo hi))
  | .tuple xs, lo, hi => some (.tuple (cutD xs lo hi))
  | _, _, _ => none
mutual
def bindL : Tgt → PyData → Option (List (Nat × PyData))
  | .one i, d => some [(i, d)]
  | .tup ts, .tuple ds => bindLs ts ds
  | .tup _, _ => none
def bindLs : List Tgt → List PyData → Option (List (Nat × PyData))
  | [], [] => some []
  | t :: ts, d :: ds => match bindL t d with
    | some l => (bindLs ts ds).map (l ++ ·)
    | none => none
  | _, _ => none
end
def setAll (ρ : Env) : List (Nat × PyData) → Env
  | [] => ρ
  | (i, d) :: r => setAll (ρ.set i (some (.d d))) r
def bindT (t : Tgt) (d : PyData) (ρ : Env) : Option Env := (bindL t d).map (setAll ρ)
def setIdx (xs : List PyData) (k : Int) (d : PyData) : Option (List PyData) := (ixN xs.length k).map fun j => xs.set j d

/-! ### the meaning -/
def wipeE (ρ : Env) : List Nat → Env
  | [] => ρ
  | v :: vs => (wipeE ρ vs).set v none
def compL (f : PyData → M (Option PyData)) : List PyData → M (List PyData)
  | [] => M.ret []
  | x :: xs => M.bnd (f x) fun o => M.bnd (compL f xs) fun r => M.ret (match o with | some y => y :: r | none => r)
def compF (f : PyData → M (List PyData)) : List PyData → M (List PyData)
  | [] => M.ret []
  | x :: xs => M.bnd (f x) fun zs => M.bnd (compF f xs) fun r => M.ret (zs ++ r)
def noEx {α : Type} (m : M α) : M α := fun s => match m s with
  | .ex _ _ _ => .bad
  | r => r
inductive Fl
  | nx (ρ : Env)
  | rt (v : SV)
  | bk (ρ : Env)
  | ct (ρ : Env)
def forL (tg : Tgt) (body : Env → M Fl) : List PyData → Env → M Fl
  | [], ρ => M.ret (.nx ρ)
  | x :: xs, ρ => M.bnd (lift (bindT tg x ρ)) fun ρ1 => M.bnd (body ρ1) fun f => match f with
    | .nx ρ2 => forL tg body xs ρ2
    | .ct ρ2 => forL tg body xs ρ2
    | .bk ρ2 => M.ret (.nx ρ2)
    | .rt v => M.ret (.rt v)
def whlL (c : Env → M Bool) (body : Env → M Fl) : Nat → Env → M Fl
  | 0, _ => bad
  | n + 1, ρ => M.bnd (c ρ) fun b => if b then M.bnd (body ρ) fun f => match f with
    | .nx ρ2 => whlL c body n ρ2
    | .ct ρ2 => whlL c body n ρ2
    | .bk ρ2 => M.ret (.nx ρ2)
    | .rt v => M.ret (.rt v)
    else M.ret (.nx ρ)
def whlFuel : Nat := 1000000000
def retD (o : Option PyData) : M SV := match o with
  | some d => M.ret (.d d)
  | none => bad
def retB (o : Option Bool) : M SV := match o with
  | some b => M.ret (.d (.bool b))
  | none => bad
def tru : SV → M Bool
  | .d p => lift (truthy p)
  | .hand => bad
def getHand (k : PyData) : M SV := fun s => match k with
  | .int i => match handAt s i with
    | some d => .ok (.d d) s
    | none => .bad
  | _ => .bad
def slotD (ρ : Env) (i : Nat) : M PyData := match ρ[i]? with
  | some (some (.d p)) => M.ret p
  | _ => bad
def slotL (ρ : Env) (i : Nat) : M (List PyData) := match ρ[i]? with
  | some (some (.d (.list ds))) => M.ret ds
  | _ => bad
def toD (m : M SV) : M PyData := M.bnd m asD
mutual
def evE (call : Nat → List SV → M SV) : Ex → Env → M SV
  | .v i, ρ => match ρ[i]? with
    | some (some x) => M.ret x
    | _ => bad
  | .c d, _ => M.ret (.d d)
  | .g d, _ => M.ret (.d d)
  | .bin o a b, ρ => M.bnd (toD (evE call a ρ)) fun x => M.bnd (toD (evE call b ρ)) fun y => retD (binop o x y)
  | .cmp o a b, ρ => M.bnd (toD (evE call a ρ)) fun x => M.bnd (toD (evE call b ρ)) fun y => retB (cmpop o x y)
  | .chain o p a b c, ρ => M.bnd (toD (evE call a ρ)) fun x => M.bnd (toD (evE call b ρ)) fun y => M.bnd (lift (cmpop o x y)) fun t =>
      if t then M.bnd (toD (evE call c ρ)) fun z => retB (cmpop p y z) else M.ret (.d (.bool false))
  | .and a b, ρ => M.bnd (evE call a ρ) fun x => M.bnd (tru x) fun t => if t then evE call b ρ else M.ret x
  | .or a b, ρ => M.bnd (evE call a ρ) fun x => M.bnd (tru x) fun t => if t then M.ret x else evE call b ρ
  | .not a, ρ => M.bnd (evE call a ρ) fun x => M.bnd (tru x) fun t => M.ret (.d (.bool (!t)))
  | .ite c a b, ρ => M.bnd (evE call c ρ) fun x => M.bnd (tru x) fun t => if t then evE call a ρ else evE call b ρ
  | .tup es, ρ => M.bnd (evDs call es ρ) fun ds => M.ret (.d (.tuple ds))
  | .lst es, ρ => M.bnd (evDs call es ρ) fun ds => M.ret (.d (.list ds))
  | .idx a i, ρ => M.bnd (evE call a ρ) fun x => M.bnd (toD (evE call i ρ)) fun y => match x with
    | .d p => retD (idxop p y)
    | .hand => getHand y
  | .slice a lo hi, ρ => M.bnd (toD (evE call a ρ)) fun x => M.bnd (evO call lo ρ) fun l => M.bnd (evO call hi ρ) fun h => retD (sliceop x l h)
  | .call f es, ρ => M.bnd (evEs call es ρ) fun xs => call f xs
  | .bi b es, ρ => M.bnd (evDs call es ρ) fun ds => retD (biop b ds)
  | .lrange es, ρ => M.bnd (evDs call es ρ) fun ds => M.bnd (lift (rangeD ds)) fun xs => M.ret (.d (.list xs))
  | .isi a t, ρ => M.bnd (toD (evE call a ρ)) fun x => M.ret (.d (.bool (isTy t x)))
  | .comp tg own it cd e, ρ => M.bnd (evI call it ρ) fun xs =>
      M.bnd (compL (fun x => noEx (M.bnd (lift (bindT tg x (wipeE ρ own))) fun ρ1 => M.bnd (evC call cd ρ1) fun t =>
        if t then M.bnd (toD (evE call e ρ1)) fun y => M.ret (some y) else M.ret none)) xs) fun ys => M.ret (.d (.list ys))
  | .comp2 tg own it cd tg1 own1 it1 cd1 e, ρ => M.bnd (evI call it ρ) fun xs =>
      M.bnd (compF (fun x => noEx (M.bnd (lift (bindT tg x (wipeE ρ own))) fun ρ1 => M.bnd (evC call cd ρ1) fun t =>
        if t then M.bnd (evI call it1 ρ1) fun ys =>
          compL (fun x => noEx (M.bnd (lift (bindT tg1 x (wipeE ρ1 own1))) fun ρ2 => M.bnd (evC call cd1 ρ2) fun t =>
            if t then M.bnd (toD (evE call e ρ2)) fun y => M.ret (some y) else M.ret none)) ys
        else M.ret [])) xs) fun ys => if ys.length ≤ sizeLine then M.ret (.d (.list ys)) else bad
def evC (call : Nat → List SV → M SV) : Option Ex → Env → M Bool
  | none, _ => M.ret true
  | some c, ρ => M.bnd (evE call c ρ) tru
def evO (call : Nat → List SV → M SV) : Option Ex → Env → M (Option Int)
  | none, _ => M.ret none
  | some e, ρ => M.bnd (toD (evE call e ρ)) fun x => match x with
    | .int i => M.ret (some i)
    | _ => bad
def evEs (call : Nat → List SV → M SV) : List Ex → Env → M (List SV)
  | [], _ => M.ret []
  | e :: es, ρ => M.bnd (evE call e ρ) fun x => M.bnd (evEs call es ρ) fun xs => M.ret (x :: xs)
def evDs (call : Nat → List SV → M SV) : List Ex → Env → M (List PyData)
  | [], _ => M.ret []
  | e :: es, ρ => M.bnd (toD (evE call e ρ)) fun x => M.bnd (evDs call es ρ) fun xs => M.ret (x :: xs)
def evI (call : Nat → List SV → M SV) : It → Env → M (List PyData)
  | .ex e, ρ => M.bnd (toD (evE call e ρ)) fun x => lift (seqD x)
  | .range es, ρ => M.bnd (evDs call es ρ) fun ds => lift (rangeD ds)
  | .enum e, ρ => M.bnd (toD (evE call e ρ)) fun x => lift (enumD x)
  | .zip a b, ρ => M.bnd (toD (evE call a ρ)) fun x => M.bnd (toD (evE call b ρ)) fun y => lift (zipD x y)
end
mutual
def flatB : PyData → Bool
  | .none => true
  | .bool _ => true
  | .int _ => true
  | .str _ => true
  | .list _ => false
  | .tuple xs => flatBs xs
  | .dict _ => false
def flatBs : List PyData → Bool
  | [] => true
  | x :: xs => flatB x && flatBs xs
end
def flatOk (fl : Bool) : SV → Bool
  | .d p => !fl || flatB p
  | .hand => !fl
def setSlot (ρ : Env) (i : Nat) (x : SV) : Env := ρ.set i (some x)
def setSs (ρ : Env) : List Nat → List SV → Env
  | i :: is, x :: xs => setSs (setSlot ρ i x) is xs
  | _, _ => ρ
def listOf : SV → M (List PyData)
  | .d (.list ds) => M.ret ds
  | _ => bad
/-- op= on ints -/
def augop : Bop → PyData → PyData → Option PyData
  | .add, .int i, .int j => some (.int (i + j))
  | .sub, .int i, .int j => some (.int (i - j))
  | _, _, _ => none
def hset (k y : PyData) (ρ : Env) : M Fl := fun s => match k with
  | .int k => match handSet s k y with
    | some s' => .ok (.nx ρ) s'
    | none => .bad
  | _ => .bad
def slotH (ρ : Env) (i : Nat) : M Unit := match ρ[i]? with
  | some (some .hand) => M.ret ()
  | _ => bad
def setiM (i : Nat) (k y : PyData) (ds : List PyData) (ρ : Env) : M Fl := match k with
  | .int k => M.bnd (lift (setIdx ds k y)) fun ds' => M.ret (.nx (setSlot ρ i (.d (.list ds'))))
  | _ => bad
mutual
def evS (call : Nat → List SV → M SV) : St → Env → M Fl
  | .set fl i e, ρ => M.bnd (evE call e ρ) fun x => if flatOk fl x then M.ret (.nx (setSlot ρ i x)) else bad
  | .setL i e, ρ => M.bnd (evE call e ρ) fun x => M.bnd (listOf x) fun ds => M.ret (.nx (setSlot ρ i (.d (.list ds))))
  | .move i j, ρ => M.bnd (slotL ρ j) fun ds => M.ret (.nx ((setSlot ρ i (.d (.list ds))).set j none))
  | .par is es, ρ => M.bnd (evEs call es ρ) fun xs => if xs.length = is.length then M.ret (.nx (setSs ρ is xs)) else bad
  | .unp fl tg e, ρ => M.bnd (toD (evE call e ρ)) fun x => if flatOk fl (.d x) then M.bnd (lift (bindT tg x ρ)) fun ρ' => M.ret (.nx ρ') else bad
  | .app fl i e, ρ => M.bnd (slotL ρ i) fun ds => M.bnd (toD (evE call e ρ)) fun y =>
      if flatOk fl (.d y) && decide (ds.length < sizeLine) then M.ret (.nx (setSlot ρ i (.d (.list (ds ++ [y]))))) else bad
  | .ext fl i e, ρ => M.bnd (slotL ρ i) fun ds => M.bnd (toD (evE call e ρ)) fun y => match y with
    | .list zs => if flatOk fl (.d (.tuple zs)) && decide (ds.length + zs.length ≤ sizeLine) then M.ret (.nx (setSlot ρ i (.d (.list (ds ++ zs))))) else bad
    | _ => bad
  | .seti fl i k e, ρ => M.bnd (toD (evE call e ρ)) fun y => if flatOk fl (.d y) then M.bnd (slotL ρ i) fun ds => M.bnd (toD (evE call k ρ)) fun k => setiM i k y ds ρ else bad
  | .setH i k e, ρ => M.bnd (toD (evE call e ρ)) fun y => M.bnd (slotH ρ i) fun _ => M.bnd (toD (evE call k ρ)) fun k => hset k y ρ
  | .augi i k o e, ρ => M.bnd (slotL ρ i) fun ds => M.bnd (toD (evE call k ρ)) fun k => match k with
    | .int k => M.bnd (lift (idxN ds k)) fun x => M.bnd (toD (evE call e ρ)) fun y => M.bnd (lift (augop o x y)) fun z =>
        M.bnd (lift (setIdx ds k z)) fun ds' => M.ret (.nx (setSlot ρ i (.d (.list ds'))))
    | _ => bad
  | .aug i o e, ρ => M.bnd (slotD ρ i) fun x => M.bnd (toD (evE call e ρ)) fun y => M.bnd (lift (augop o x y)) fun z => M.ret (.nx (setSlot ρ i (.d z)))
  | .ite c a b, ρ => M.bnd (evE call c ρ) fun x => M.bnd (tru x) fun t => if t then evSs call a ρ else evSs call b ρ
  | .for_ tg it body, ρ => M.bnd (evI call it ρ) fun xs => forL tg (evSs call body) xs ρ
  | .whl c body, ρ => whlL (fun ρ => M.bnd (evE call c ρ) tru) (evSs call body) whlFuel ρ
  | .ret e, ρ => M.bnd (evE call e ρ) fun x => M.ret (.rt x)
  | .brk, ρ => M.ret (.bk ρ)
  | .cont, ρ => M.ret (.ct ρ)
  | .pass, ρ => M.ret (.nx ρ)
  | .drop e, ρ => M.bnd (evE call e ρ) fun _ => M.ret (.nx ρ)
  | .raise c es, ρ => M.bnd (evDs call es ρ) fun ds => fun s => .ex c ds s
  | .never, _ => bad
def evSs (call : Nat → List SV → M SV) : List St → Env → M Fl
  | [], ρ => M.ret (.nx ρ)
  | st :: r, ρ => M.bnd (evS call st ρ) fun f => match f with
    | .nx ρ' => evSs call r ρ'
    | f => M.ret f
end
def endF : Fl → M SV
  | .nx _ => M.ret (.d .none)
  | .rt v => M.ret v
  | _ => bad
/-- a def called, to the depth k -/
def evF (P : List Fn) : Nat → Nat → List SV → M SV
  | 0, _, _ => bad
  | k + 1, i, args => match P[i]? with
    | none => bad
    | some f => if args.length = f.np then M.bnd (evSs (evF P k) f.body (args.map some ++ List.replicate (f.n - args.length) none)) endF else bad
end Wv

set_option Elab.async false
set_option autoImplicit false
set_option linter.all false
set_option maxRecDepth 100000
set_option maxHeartbeats 2000000
namespace Wv
open PySem PySem.Spec PyProof.Rows L2

/-! ### monad laws -/
section
variable {α β γ : Type}
theorem bnd_ok {m : M α} {k : α → M β} {s s' : Hand} {a : α} (h : m s = .ok a s') : M.bnd m k s = k a s' := by unfold M.bnd; rw [h]
theorem bnd_ret (a : α) (k : α → M β) : M.bnd (M.ret a) k = k a := rfl
theorem bnd_assoc (m : M α) (k : α → M β) (l : β → M γ) : M.bnd (M.bnd m k) l = M.bnd m fun a => M.bnd (k a) l := by
  funext s
  unfold M.bnd
  cases m s <;> rfl
theorem bnd_bad (k : α → M β) : M.bnd bad k = bad := rfl
theorem ret_eq (a : α) (s : Hand) : M.ret a s = .ok a s := rfl
end

/-! ### what stands in the abstract heap for data -/
/-- all but the hand's list stays -/
def Ext (hd : Addr) (H H' : Hp) : Prop := ∀ b o, H b = some o → b ≠ hd → H' b = some o
theorem Ext.refl (hd : Addr) (H : Hp) : Ext hd H H := fun _ _ h _ => h
theorem Ext.trans {hd : Addr} {H H1 H2 : Hp} (a : Ext hd H H1) (b : Ext hd H1 H2) : Ext hd H H2 := fun c o h n => b c o (a c o h n) n
theorem Ext.of {hd : Addr} {H H' : Hp} (e : ∀ b o, H b = some o → H' b = some o) : Ext hd H H' := fun b o h _ => e b o h
theorem Ext.upd {hd p : Addr} {H : Hp} {o : HO} (h : H p = none) : Ext hd H (upd H p o) := fun b u e _ => by rw [upd_ne (ne_of_none e h)]; exact e
/-- a list or tuple of the program's own constants -/
def KSeq (K : PySem.W.Frag) (T : String) (a : Addr) (xs : List V) : Prop :=
  ∃ (o : Obj) (its : Array Value) (n : Nat), K.lookup a = some o ∧ o.cls = .type T ∧ o.dict = none ∧ o.data = .seq its n ∧ its.size ≤ sizeLine ∧ Vals xs its.toList
mutual
inductive Rep (K : PySem.W.Frag) (H : Hp) (Z : Addr → Prop) : V → PyData → Prop
  | non : Rep K H Z .non .none
  | bl (b : Bool) : Rep K H Z (.bl b) (.bool b)
  | int (i : Int) : Rep K H Z (.int i) (.int i)
  | str (x : Str) : Rep K H Z (.str x) (.str x)
  | lst {a : Addr} {xs : List V} {ds : List PyData} : H a = some (.lst xs) → ¬ Z a → xs.length ≤ sizeLine → Reps K H Z xs ds → Rep K H Z (.ref a) (.list ds)
  | tup {a : Addr} {xs : List V} {ds : List PyData} : H a = some (.tup xs) → ¬ Z a → xs.length ≤ sizeLine → Reps K H Z xs ds → Rep K H Z (.ref a) (.tuple ds)
  | tupK {a : Addr} {xs : List V} {ds : List PyData} : KSeq K "tuple" a xs → xs.length ≤ sizeLine → Reps K H Z xs ds → Rep K H Z (.ref a) (.tuple ds)
inductive Reps (K : PySem.W.Frag) (H : Hp) (Z : Addr → Prop) : List V → List PyData → Prop
  | nil : Reps K H Z [] []
  | cons {v : V} {vs : List V} {d : PyData} {ds : List PyData} : Rep K H Z v d → Reps K H Z vs ds → Reps K H Z (v :: vs) (d :: ds)
end
section
variable {K : PySem.W.Frag} {H H' : Hp} {Z Z' : Addr → Prop}
mutual
theorem Rep.move (k : ∀ b o, H b = some o → ¬ Z b → H' b = some o) (kz : ∀ b, H b ≠ none → ¬ Z b → ¬ Z' b) : ∀ (d : PyData) (v : V), Rep K H Z v d → Rep K H' Z' v d
  | .none, _, r => by cases r; exact .non
  | .bool b, _, r => by cases r; exact .bl b
  | .int i, _, r => by cases r; exact .int i
  | .str x, _, r => by cases r; exact .str x
  | .list ds, _, r => by
    cases r with
    | lst h n z rs => exact .lst (k _ _ h n) (kz _ (by rw [h]; exact fun z => nomatch z) n) z (Reps.move k kz ds _ rs)
  | .tuple ds, _, r => by
    cases r with
    | tup h n z rs => exact .tup (k _ _ h n) (kz _ (by rw [h]; exact fun z => nomatch z) n) z (Reps.move k kz ds _ rs)
    | tupK h z rs => exact .tupK h z (Reps.move k kz ds _ rs)
  | .dict _, _, r => by cases r
theorem Reps.move (k : ∀ b o, H b = some o → ¬ Z b → H' b = some o) (kz : ∀ b, H b ≠ none → ¬ Z b → ¬ Z' b) : ∀ (ds : List PyData) (vs : List V), Reps K H Z vs ds → Reps K H' Z' vs ds
  | [], _, r => by cases r; exact .nil
  | d :: ds, _, r => by
    cases r with
    | cons h t => exact .cons (Rep.move k kz d _ h) (Reps.move k kz ds _ t)
end
theorem Rep.mono {hd : Addr} {v : V} {d : PyData} (e : Ext hd H H') (hz : Z hd) (r : Rep K H Z v d) : Rep K H' Z v d :=
  r.move (fun b o h n => e b o h fun z => n (z ▸ hz)) (fun _ _ n => n) d v
theorem Reps.mono {hd : Addr} {vs : List V} {ds : List PyData} (e : Ext hd H H') (hz : Z hd) (r : Reps K H Z vs ds) : Reps K H' Z vs ds :=
  r.move (fun b o h n => e b o h fun z => n (z ▸ hz)) (fun _ _ n => n) ds vs
/-- fewer addresses to keep off -/
theorem Rep.less {v : V} {d : PyData} (h : ∀ a, Z' a → Z a) (r : Rep K H Z v d) : Rep K H Z' v d := r.move (fun _ _ h _ => h) (fun b _ n z => n (h b z)) d v
theorem Reps.less {vs : List V} {ds : List PyData} (h : ∀ a, Z' a → Z a) (r : Reps K H Z vs ds) : Reps K H Z' vs ds := r.move (fun _ _ h _ => h) (fun b _ n z => n (h b z)) ds vs
/-- a new address to keep off -/
theorem Rep.more {v : V} {d : PyData} (h : ∀ a, Z' a → Z a ∨ H a = none) (r : Rep K H Z v d) : Rep K H Z' v d :=
  r.move (fun _ _ h _ => h) (fun b hb n z => (h b z).elim n hb) d v
theorem Reps.more {vs : List V} {ds : List PyData} (h : ∀ a, Z' a → Z a ∨ H a = none) (r : Reps K H Z vs ds) : Reps K H Z' vs ds :=
  r.move (fun _ _ h _ => h) (fun b hb n z => (h b z).elim n hb) ds vs
theorem KSeq.sqT {a : Addr} {xs : List V} (h : KSeq K "tuple" a xs) : SqT K H a xs := by
  obtain ⟨o, its, n, a1, a2, a3, a4, a5, a6⟩ := h
  exact .inr ⟨o, its, n, a1, a2, a4, a5, a6⟩
theorem Rep.list {v : V} {ds : List PyData} (r : Rep K H Z v (.list ds)) : ∃ a xs, v = .ref a ∧ H a = some (.lst xs) ∧ ¬ Z a ∧ xs.length ≤ sizeLine ∧ Reps K H Z xs ds := by
  cases r with
  | lst h n z rs => exact ⟨_, _, rfl, h, n, z, rs⟩
theorem Rep.tuple {v : V} {ds : List PyData} (r : Rep K H Z v (.tuple ds)) : ∃ a xs, v = .ref a ∧ SqT K H a xs ∧ xs.length ≤ sizeLine ∧ Reps K H Z xs ds := by
  cases r with
  | tup h n z rs => exact ⟨_, _, rfl, SqT.of h, z, rs⟩
  | tupK h z rs => exact ⟨_, _, rfl, h.sqT, z, rs⟩
theorem Reps.length : ∀ {vs : List V} {ds : List PyData}, Reps K H Z vs ds → vs.length = ds.length
  | _, _, .nil => rfl
  | _, _, .cons _ t => by simp [t.length]
theorem Reps.get : ∀ {vs : List V} {ds : List PyData} {i : Nat} {v : V}, Reps K H Z vs ds → vs[i]? = some v → ∃ d, ds[i]? = some d ∧ Rep K H Z v d
  | _, _, _, _, .nil, h => by simp at h
  | _, _, 0, _, .cons r _, h => by simp at h; subst h; exact ⟨_, rfl, r⟩
  | _, _, i + 1, _, .cons _ t, h => by
    obtain ⟨d, h1, h2⟩ := t.get (by simpa using h)
    exact ⟨d, by simpa using h1, h2⟩
theorem Reps.getD : ∀ {vs : List V} {ds : List PyData} {i : Nat} {d : PyData}, Reps K H Z vs ds → ds[i]? = some d → ∃ v, vs[i]? = some v ∧ Rep K H Z v d
  | _, _, _, _, .nil, h => by simp at h
  | _, _, 0, _, .cons r _, h => by simp at h; subst h; exact ⟨_, rfl, r⟩
  | _, _, i + 1, _, .cons _ t, h => by
    obtain ⟨d, h1, h2⟩ := t.getD (by simpa using h)
    exact ⟨d, by simpa using h1, h2⟩
theorem Reps.append : ∀ {vs ws : List V} {ds es : List PyData}, Reps K H Z vs ds → Reps K H Z ws es → Reps K H Z (vs ++ ws) (ds ++ es)
  | _, _, _, _, .nil, s => s
  | _, _, _, _, .cons r t, s => .cons r (t.append s)
theorem Reps.take : ∀ {vs : List V} {ds : List PyData} (n : Nat), Reps K H Z vs ds → Reps K H Z (vs.take n) (ds.take n)
  | _, _, 0, _ => by simp; exact .nil
  | _, _, _ + 1, .nil => by simp; exact .nil
  | _, _, n + 1, .cons r t => .cons r (t.take n)
theorem Reps.drop : ∀ {vs : List V} {ds : List PyData} (n : Nat), Reps K H Z vs ds → Reps K H Z (vs.drop n) (ds.drop n)
  | _, _, 0, r => by simpa using r
  | _, _, _ + 1, .nil => by simp; exact .nil
  | _, _, n + 1, .cons _ t => by simpa using t.drop n
theorem Reps.set {v : V} {d : PyData} (r : Rep K H Z v d) : ∀ {vs : List V} {ds : List PyData} (i : Nat), Reps K H Z vs ds → Reps K H Z (vs.set i v) (ds.set i d)
  | _, _, _, .nil => .nil
  | _, _, 0, .cons _ t => .cons r t
  | _, _, i + 1, .cons q t => .cons q (t.set r i)
theorem Reps.rep {vs : List V} {ds : List PyData} (h : Reps K H Z vs ds) : ∀ k : Nat, Reps K H Z (List.replicate k vs).flatten (List.replicate k ds).flatten
  | 0 => .nil
  | k + 1 => by simp only [List.replicate_succ, List.flatten_cons]; exact h.append (h.rep k)
mutual
theorem Rep.dp : ∀ (d : PyData) (v : V), Rep K H Z v d → Dp K H v d
  | .none, _, r => by cases r; exact .non
  | .bool b, _, r => by cases r; exact .bl b
  | .int i, _, r => by cases r; exact .int i
  | .str x, _, r => by cases r; exact .str x
  | .list ds, _, r => by
    cases r with
    | lst h n z rs => exact .lst (SqL.of h) (Reps.dp ds _ rs)
  | .tuple ds, _, r => by
    cases r with
    | tup h n z rs => exact .tup (SqT.of h) (Reps.dp ds _ rs)
    | tupK h z rs => exact .tup h.sqT (Reps.dp ds _ rs)
  | .dict _, _, r => by cases r
theorem Reps.dp : ∀ (ds : List PyData) (vs : List V), Reps K H Z vs ds → DpAll K H vs ds
  | [], _, r => by cases r; exact .nil
  | d :: ds, _, r => by
    cases r with
    | cons h t => exact .cons (Rep.dp d _ h) (Reps.dp ds _ t)
end
theorem Reps.ints : ∀ {ds : List PyData} {vs : List V} {ns : List Int}, Reps K H Z vs ds → ints? ds = some ns → vs = ns.map V.int
  | [], _, _, r, h => by cases r; cases h; rfl
  | .int i :: ds, _, _, r, h => by
    cases r with
    | cons a t =>
      cases a
      simp only [ints?, Option.map_eq_some_iff] at h
      obtain ⟨ms, h1, rfl⟩ := h
      rw [t.ints h1]; rfl
  | .none :: _, _, _, _, h => nomatch h
  | .bool _ :: _, _, _, _, h => nomatch h
  | .str _ :: _, _, _, _, h => nomatch h
  | .list _ :: _, _, _, _, h => nomatch h
  | .tuple _ :: _, _, _, _, h => nomatch h
  | .dict _ :: _, _, _, _, h => nomatch h
theorem Reps.bools : ∀ {ds : List PyData} {vs : List V} {bs : List Bool}, Reps K H Z vs ds → bools? ds = some bs → vs = bs.map V.bl
  | [], _, _, r, h => by cases r; cases h; rfl
  | .bool i :: ds, _, _, r, h => by
    cases r with
    | cons a t =>
      cases a
      simp only [bools?, Option.map_eq_some_iff] at h
      obtain ⟨ms, h1, rfl⟩ := h
      rw [t.bools h1]; rfl
  | .none :: _, _, _, _, h => nomatch h
  | .int _ :: _, _, _, _, h => nomatch h
  | .str _ :: _, _, _, _, h => nomatch h
  | .list _ :: _, _, _, _, h => nomatch h
  | .tuple _ :: _, _, _, _, h => nomatch h
  | .dict _ :: _, _, _, _, h => nomatch h
theorem Reps.of_ints : ∀ ns : List Int, Reps K H Z (ns.map V.int) (ns.map PyData.int)
  | [] => .nil
  | n :: ns => .cons (.int n) (Reps.of_ints ns)
end

/-! ### the hand -/
structure HandAt (H : Hp) (hd hc : Addr) (s : Hand) : Prop where
  at_ : H hd = some (.lst [.ref hc, .int s.pos, .int s.big, .int s.mix, .int s.cnt])
  cells : H hc = some (.lst (s.cells.map V.int))
  len : s.cells.length ≤ sizeLine
def RepS (K : PySem.W.Frag) (H : Hp) (Z : Addr → Prop) (hd : Addr) (v : V) : SV → Prop
  | .d p => Rep K H Z v p
  | .hand => v = .ref hd
inductive RepSs (K : PySem.W.Frag) (H : Hp) (Z : Addr → Prop) (hd : Addr) : List V → List SV → Prop
  | nil : RepSs K H Z hd [] []
  | cons {v : V} {vs : List V} {x : SV} {xs : List SV} : RepS K H Z hd v x → RepSs K H Z hd vs xs → RepSs K H Z hd (v :: vs) (x :: xs)
section
variable {K : PySem.W.Frag} {H H' : Hp} {Z Z' : Addr → Prop} {hd : Addr}
theorem RepS.mono {v : V} {x : SV} (e : Ext hd H H') (hz : Z hd) (r : RepS K H Z hd v x) : RepS K H' Z hd v x := by
  cases x with
  | d p => exact Rep.mono e hz r
  | hand => exact r
theorem RepS.less {v : V} {x : SV} (h : ∀ a, Z' a → Z a) (r : RepS K H Z hd v x) : RepS K H Z' hd v x := by
  cases x with
  | d p => exact Rep.less h r
  | hand => exact r
theorem RepS.more {v : V} {x : SV} (h : ∀ a, Z' a → Z a ∨ H a = none) (r : RepS K H Z hd v x) : RepS K H Z' hd v x := by
  cases x with
  | d p => exact Rep.more h r
  | hand => exact r
theorem RepSs.mono : ∀ {vs : List V} {xs : List SV}, Ext hd H H' → Z hd → RepSs K H Z hd vs xs → RepSs K H' Z hd vs xs
  | _, _, _, _, .nil => .nil
  | _, _, e, hz, .cons r t => .cons (r.mono e hz) (t.mono e hz)
theorem RepSs.less : ∀ {vs : List V} {xs : List SV}, (∀ a, Z' a → Z a) → RepSs K H Z hd vs xs → RepSs K H Z' hd vs xs
  | _, _, _, .nil => .nil
  | _, _, h, .cons r t => .cons (r.less h) (t.less h)
theorem RepSs.length : ∀ {vs : List V} {xs : List SV}, RepSs K H Z hd vs xs → vs.length = xs.length
  | _, _, .nil => rfl
  | _, _, .cons _ t => by simp [t.length]
theorem RepSs.get : ∀ {vs : List V} {xs : List SV} {i : Nat} {x : SV}, RepSs K H Z hd vs xs → xs[i]? = some x → ∃ v, vs[i]? = some v ∧ RepS K H Z hd v x
  | _, _, _, _, .nil, h => by simp at h
  | _, _, 0, _, .cons r _, h => by simp at h; subst h; exact ⟨_, rfl, r⟩
  | _, _, i + 1, _, .cons _ t, h => by
    obtain ⟨d, h1, h2⟩ := t.get (by simpa using h)
    exact ⟨d, by simpa using h1, h2⟩
end

/-! ### the relation of a frame -/
/-- the addresses of the lists that this frame's slots ms own -/
def OwnA (ms : List Nat) (ρ : Env) (σ : L2.St) (a : Addr) : Prop := ∃ i ∈ ms, (∃ x, ρ[i]? = some (some x)) ∧ σ[i]? = some (some (.ref a))
/-- what must be kept off by data that are stored -/
def Zf (Z0 : Addr → Prop) (hd : Addr) (ms : List Nat) (ρ : Env) (σ : L2.St) : Addr → Prop := fun a => Z0 a ∨ a = hd ∨ OwnA ms ρ σ a
def Zb (Z0 : Addr → Prop) (hd : Addr) : Addr → Prop := fun a => Z0 a ∨ a = hd
/-- al: may the value be (or hold) a list that the frame owns? -/
def Zal (al : Bool) (Z0 : Addr → Prop) (hd : Addr) (ms : List Nat) (ρ : Env) (σ : L2.St) : Addr → Prop := if al then Zb Z0 hd else Zf Z0 hd ms ρ σ
structure Own (K : PySem.W.Frag) (F : Hp) (Z0 : Addr → Prop) (hd hc : Addr) (Z : Addr → Prop) (H : Hp) (v : V) (x : SV) : Prop where
  mk_ : ∃ a xs ds, x = .d (.list ds) ∧ v = .ref a ∧ H a = some (.lst xs) ∧ xs.length ≤ sizeLine ∧ Reps K H Z xs ds ∧ F a = none ∧ ¬ Z0 a ∧ a ≠ hd ∧ a ≠ hc
structure Rel (K : PySem.W.Frag) (F : Hp) (Z0 : Addr → Prop) (hd hc : Addr) (ms : List Nat) (ρ : Env) (s : Hand) (σ : L2.St) (H : Hp) : Prop where
  ext : Ext hd F H
  tr : ∀ a, Z0 a → H a ≠ none
  hand : HandAt H hd hc s
  nc : ¬ Z0 hc ∧ hc ≠ hd
  sh : ∀ (i : Nat) x, i ∉ ms → ρ[i]? = some (some x) → ∃ v, σ[i]? = some (some v) ∧ RepS K H (Zf Z0 hd ms ρ σ) hd v x
  own : ∀ (i : Nat) x, i ∈ ms → ρ[i]? = some (some x) → ∃ v, σ[i]? = some (some v) ∧ Own K F Z0 hd hc (Zf Z0 hd ms ρ σ) H v x
  dis : ∀ (i j : Nat) x y a, i ∈ ms → j ∈ ms → ρ[i]? = some (some x) → ρ[j]? = some (some y) → σ[i]? = some (some (.ref a)) → σ[j]? = some (some (.ref a)) → i = j
  len : ρ.length = σ.length
section
variable {K : PySem.W.Frag} {F H H' : Hp} {Z0 : Addr → Prop} {hd hc : Addr} {ms : List Nat} {ρ : Env} {s s' : Hand} {σ : L2.St}
theorem Zf.has : Zf Z0 hd ms ρ σ hd := .inr (.inl rfl)
theorem Zb.has : Zb Z0 hd hd := .inr rfl
theorem Zb.le {a : Addr} (h : Zb Z0 hd a) : Zf Z0 hd ms ρ σ a := h.elim .inl fun e => .inr (.inl e)
theorem Zal.has (al : Bool) : Zal al Z0 hd ms ρ σ hd := by
  cases al
  · exact Zf.has
  · exact Zb.has
theorem Zal.le {al : Bool} {a : Addr} (h : Zal al Z0 hd ms ρ σ a) : Zf Z0 hd ms ρ σ a := by
  cases al
  · exact h
  · exact Zb.le h
theorem Zal.b {al : Bool} {a : Addr} (h : Zb Z0 hd a) : Zal al Z0 hd ms ρ σ a := by
  cases al
  · exact Zb.le h
  · exact h
theorem Rel.ownAt (R : Rel K F Z0 hd hc ms ρ s σ H) {a : Addr} (h : OwnA ms ρ σ a) : (∃ xs, H a = some (.lst xs)) ∧ F a = none ∧ ¬ Z0 a ∧ a ≠ hd ∧ a ≠ hc := by
  obtain ⟨i, hi, ⟨x, hx⟩, hs⟩ := h
  obtain ⟨v, hv, ⟨b, xs, ds, _, e, h1, _, _, h2, h3, h4, h5⟩⟩ := R.own i x hi hx
  rw [hs] at hv
  cases hv
  cases e
  exact ⟨⟨xs, h1⟩, h2, h3, h4, h5⟩
theorem Rel.trf (R : Rel K F Z0 hd hc ms ρ s σ H) : ∀ a, Zf Z0 hd ms ρ σ a → H a ≠ none := fun a h => by
  rcases h with h | h | h
  · exact R.tr a h
  · rw [h, R.hand.at_]; exact fun z => nomatch z
  · obtain ⟨⟨xs, e⟩, _⟩ := R.ownAt h
    rw [e]; exact fun z => nomatch z
theorem Rel.ncf (R : Rel K F Z0 hd hc ms ρ s σ H) : ¬ Zf Z0 hd ms ρ σ hc := fun h => by
  rcases h with h | h | h
  · exact R.nc.1 h
  · exact R.nc.2 h
  · exact (R.ownAt h).2.2.2.2 rfl
theorem Rel.ncal (R : Rel K F Z0 hd hc ms ρ s σ H) (al : Bool) : ¬ Zal al Z0 hd ms ρ σ hc := fun h => R.ncf h.le
/-- behind an expression -/
theorem Rel.step (R : Rel K F Z0 hd hc ms ρ s σ H) (e : Ext hd H H') (h : HandAt H' hd hc s') : Rel K F Z0 hd hc ms ρ s' σ H' where
  ext := R.ext.trans e
  tr := fun a ha => by
    have h1 := R.tr a ha
    by_cases hh : a = hd
    · rw [hh, h.at_]; exact fun z => nomatch z
    · cases q : H a with
      | none => exact absurd q h1
      | some o => rw [e a o q hh]; exact fun z => nomatch z
  hand := h
  nc := R.nc
  sh := fun i x hi hx => by
    obtain ⟨v, h1, h2⟩ := R.sh i x hi hx
    exact ⟨v, h1, h2.mono e Zf.has⟩
  own := fun i x hi hx => by
    obtain ⟨v, h1, ⟨a, xs, ds, e1, e2, h2, h3, h4, h5, h6, h7, h8⟩⟩ := R.own i x hi hx
    exact ⟨v, h1, ⟨a, xs, ds, e1, e2, e _ _ h2 h7, h3, h4.mono e Zf.has, h5, h6, h7, h8⟩⟩
  dis := R.dis
  len := R.len
end

/-! ### what is wanted behind -/
/-- how an exception of the program lies: its class by its number, its arguments -/
abbrev XRep := Nat → List PyData → Value → Option Addr → Hp → Prop
def Post (XR : XRep) (Eo : XK) (hd hc : Addr) (H : Hp) {α β : Type} (Rp : Hp → β → α → Prop) (Q : β → Hp → Prop) : R α → Prop
  | .ok a s' => ∀ b H', Ext hd H H' → HandAt H' hd hc s' → Rp H' b a → Q b H'
  | .ex c as s' => ∀ cls dd H', Ext hd H H' → HandAt H' hd hc s' → XR c as cls dd H' → Eo cls dd H'
  | .bad => False
theorem Post.bnd {XR : XRep} {Eo : XK} {hd hc : Addr} {H : Hp} {α β γ δ : Type} {m : M α} {k : α → M γ} {s : Hand} {Rp : Hp → β → α → Prop} {Rq : Hp → δ → γ → Prop} {Q : δ → Hp → Prop} {Q' : β → Hp → Prop}
    (h : Post XR Eo hd hc H Rq Q (M.bnd m k s))
    (hk : ∀ a s1 b H1, m s = .ok a s1 → Ext hd H H1 → HandAt H1 hd hc s1 → Rp H1 b a → Post XR Eo hd hc H1 Rq Q (k a s1) → Q' b H1) : Post XR Eo hd hc H Rp Q' (m s) := by
  unfold M.bnd at h
  cases e : m s with
  | ok a s1 =>
    rw [e] at h
    intro b H1 e1 h1 r1
    refine hk a s1 b H1 e e1 h1 r1 ?_
    show Post XR Eo hd hc H1 Rq Q (k a s1)
    have h : Post XR Eo hd hc H Rq Q (k a s1) := h
    cases e2 : k a s1 with
    | ok c s2 =>
      rw [e2] at h
      exact fun b2 H2 x2 h2 r2 => h b2 H2 (e1.trans x2) h2 r2
    | ex c as s2 =>
      rw [e2] at h
      exact fun cl dd H2 x2 h2 r2 => h cl dd H2 (e1.trans x2) h2 r2
    | bad => rw [e2] at h; exact h
  | ex c as s1 =>
    rw [e] at h
    exact h
  | bad => rw [e] at h; exact h
theorem Post.imp {XR : XRep} {Eo : XK} {hd hc : Addr} {H : Hp} {α β : Type} {Rp Rq : Hp → β → α → Prop} {Q Q' : β → Hp → Prop} {r : R α} (h : Post XR Eo hd hc H Rp Q r)
    (hk : ∀ b H' a, Ext hd H H' → Rq H' b a → Rp H' b a) (hq : ∀ b H', Q b H' → Q' b H') : Post XR Eo hd hc H Rq Q' r := by
  cases r with
  | ok a s' => exact fun b H' e h1 r1 => hq b H' (h b H' e h1 (hk b H' a e r1))
  | ex c as s' => exact h
  | bad => exact h
/-- a value computed without the machine's help -/
theorem Post.ret {XR : XRep} {Eo : XK} {hd hc : Addr} {H : Hp} {α β : Type} {a : α} {s : Hand} {Rp : Hp → β → α → Prop} {Q : β → Hp → Prop} (h : Post XR Eo hd hc H Rp Q (M.ret a s)) {b : β} {H' : Hp} (e : Ext hd H H') (hh : HandAt H' hd hc s) (r : Rp H' b a) : Q b H' := h b H' e hh r
theorem HandAt.keep {H H' : Hp} {hd hc : Addr} {s : Hand} (h : HandAt H hd hc s) (k : ∀ b o, H b = some o → H' b = some o) : HandAt H' hd hc s :=
  ⟨k _ _ h.at_, k _ _ h.cells, h.len⟩
theorem HandAt.upd {H : Hp} {hd hc p : Addr} {s : Hand} {o : HO} (h : HandAt H hd hc s) (n : H p = none) : HandAt (upd H p o) hd hc s := h.keep fun b u e => by rw [upd_ne (ne_of_none e n)]; exact e
end Wv

set_option Elab.async false
set_option autoImplicit false
set_option linter.all false
set_option maxRecDepth 100000
set_option maxHeartbeats 4000000
namespace Wv
open PySem PySem.Spec PyProof.Rows L2 PySem.W

theorem tup_mul_same (l : Addr) (items : Array Value) (n : Nat) (dd : Option Addr) (sl : Array (Option Value)) (x : Int) (u : Tok) (c0 : (decide (x < -(2 ^ 63)) || decide (x ≥ 2 ^ 63)) = false) (c1 : (items.isEmpty || x == 1) = true) :
    Meets (Builtin.«tuple.__mul__» ⟨[.ref l, .int x u], []⟩) (fun _ R s => s.heap.get? l = some { cls := .type "tuple", dict := dd, data := .seq items n, slots := sl } ∧ R (.ok (.ret (Value.ref l))) s) :=
  .of_wp fun prog w A R s h => by
    obtain ⟨hp, g, d, tk, os⟩ := s
    obtain ⟨hl, h⟩ := h
    have f1 := AutoSeq1.idx_int
    wp_walk using wpAny_loadPart' hl
    refine wpAny_ite_false (decide_eq_false (by rw [c0]; exact Bool.false_ne_true)) ?_
    wp_walk using wpAny_loadPart' hl
    exact ⟨_, rfl, h⟩
theorem tup_mul_none (l : Addr) (items : Array Value) (n : Nat) (dd : Option Addr) (sl : Array (Option Value)) (x : Int) (u : Tok) (c0 : (decide (x < -(2 ^ 63)) || decide (x ≥ 2 ^ 63)) = false) (c1 : (items.isEmpty || x == 1) = false) (c2 : x ≤ 0) :
    Meets (Builtin.«tuple.__mul__» ⟨[.ref l, .int x u], []⟩) (fun _ R s => s.heap.get? l = some { cls := .type "tuple", dict := dd, data := .seq items n, slots := sl } ∧
      R (.ok (.ret (Value.ref s.heap.objs.size))) { s with heap := s.heap.push { cls := Value.type "tuple", data := Data.seq #[] }, toks := s.toks }) :=
  .of_wp fun prog w A R s h => by
    obtain ⟨hp, g, d, tk, os⟩ := s
    obtain ⟨hl, h⟩ := h
    have f1 := AutoSeq1.idx_int
    wp_walk using wpAny_loadPart' hl
    repeat (first
      | (refine wpAny_ite_false (decide_eq_false (by rw [c0]; exact Bool.false_ne_true)) ?_; wp_walk using wpAny_loadPart' hl)
      | (refine wpAny_ite_false (decide_eq_false (by rw [c1]; exact Bool.false_ne_true)) ?_; wp_walk using wpAny_loadPart' hl))
    exact ⟨_, rfl, h⟩

section
variable {X : Cx}
def rRepA (K : PySem.W.Frag) : R2 := fun x y H Q => ∃ l k xs, x = .ref l ∧ y = .int k ∧ SqT K H l xs ∧ -(2 ^ 63) ≤ k ∧ k < 2 ^ 63 ∧ xs.length * k.toNat ≤ sizeLine ∧
  ((xs = [] ∨ k = 1) → Q (.ref l) H) ∧ (¬ (xs = [] ∨ k = 1) → ∀ p, H p = none → Q (.ref p) (upd H p (.tup (List.replicate k.toNat xs).flatten)))
theorem op_repA : OpR X (binaryOp .Mult) (rRepA X.K) := by
  intro pins s σ H x y v u Q I rx ry h
  obtain ⟨l, k, xs, rfl, rfl, hT, h1, h2, hz, q1, q2⟩ := h
  cases rx
  obtain ⟨t, rfl⟩ := ry
  obtain ⟨its, r, ⟨⟨cls, dd, data, sl⟩, ho, hc, n, hd⟩, hs⟩ := I.tuple hT
  simp only at hc hd
  subst hc hd
  have hle : its.length = xs.length := r.length.symm
  have c0 : (decide (k < -(2 ^ 63)) || decide (k ≥ 2 ^ 63)) = false := by
    rw [decide_eq_false (by omega), decide_eq_false (by omega)] <;> rfl
  by_cases hs1 : xs = [] ∨ k = 1
  · have c1 : (its.toArray.isEmpty || k == 1) = true := by
      rcases hs1 with e | e
      · subst e
        cases r
        rfl
      · subst e; simp
    exact wpAny_binaryOp_repeat_ref (T := "tuple") (U := "int") (by decide) ⟨_, ho, rfl⟩ (fun s' => typeIs_int s' k t) noFill_tuple_mul F.fills_int_mul F.slot_int_rmul repeat_tuple F.slot_int_index.lookup
      (call_meets F.slot_int_rmul (typeIs_int s k t) F.entry_int_rmul (F.args_int_rmul_2 _ _) (int_rmul_tuple k t l its.toArray n dd sl)
        ⟨ho, rfl, ⟨_, ho, rfl⟩, call_meets F.slot_tuple_mul ⟨_, ho, rfl⟩ F.entry_tuple_mul (F.args_tuple_mul_2 _ _) (tup_mul_same l its.toArray n dd sl k t c0 c1) ⟨ho, ⟨.ref l, _, I, rfl, q1 hs1⟩⟩⟩)
  · have hn : its ≠ [] := fun e => hs1 (.inl (by
      rw [e] at hle
      exact List.eq_nil_of_length_eq_zero hle.symm))
    have hi : its.toArray.isEmpty = false := by
      cases its with
      | nil => exact absurd rfl hn
      | cons a b => rfl
    have c1 : (its.toArray.isEmpty || k == 1) = false := by
      rw [hi, Bool.false_or]
      exact beq_eq_false_iff_ne.mpr fun e => hs1 (.inr e)
    have hsz0 : its.toArray.size = xs.length := by rw [List.size_toArray, hle]
    by_cases hk : k ≤ 0
    · refine wpAny_binaryOp_repeat_ref (T := "tuple") (U := "int") (by decide) ⟨_, ho, rfl⟩ (fun s' => typeIs_int s' k t) noFill_tuple_mul F.fills_int_mul F.slot_int_rmul repeat_tuple F.slot_int_index.lookup
        (call_meets F.slot_int_rmul (typeIs_int s k t) F.entry_int_rmul (F.args_int_rmul_2 _ _) (int_rmul_tuple k t l its.toArray n dd sl)
          ⟨ho, rfl, ⟨_, ho, rfl⟩, call_meets F.slot_tuple_mul ⟨_, ho, rfl⟩ F.entry_tuple_mul (F.args_tuple_mul_2 _ _) (tup_mul_none l its.toArray n dd sl k t c0 c1 hk) ⟨ho, ?_⟩⟩)
      have e0 : k.toNat = 0 := by omega
      refine ⟨.ref s.heap.objs.size, _, I.laid (t' := s.toks) (o := .tup (List.replicate k.toNat xs).flatten) (fun b ob q => Heap.get?_push_of_some _ q) (Nat.le_refl _) ?_, rfl, q2 hs1 _ (I.hok.fresh (Nat.le_refl _))⟩
      rw [e0]
      exact ⟨by simp, [], .nil, IsTup.new _ _⟩
    · have hm : ((its.toArray.size : Nat) : Int) * k = ((xs.length * k.toNat : Nat) : Int) := by
        rw [hsz0, Int.natCast_mul, Int.toNat_of_nonneg (by omega)]
      have hzl : xs.length * k.toNat ≤ 16777216 := by rw [sizeLine_eq] at hz; exact hz
      have flen : (List.replicate k.toNat its).flatten.length ≤ sizeLine := by
        rw [PyProof.Rows.lm_len_rep_flat, hle, Nat.mul_comm]
        exact hz
      have c2 : (decide (k ≤ 0) || its.toArray.isEmpty) = false := by
        rw [hi, Bool.or_false]
        exact decide_eq_false hk
      have c4 : Builtin.Tuple.tupleTooMany (((its.toArray.size : Nat) : Int) * k) = false := by
        unfold Builtin.Tuple.tupleTooMany
        rw [hm, sizeLine_eq]
        exact decide_eq_false (by omega)
      refine wpAny_binaryOp_repeat_ref (T := "tuple") (U := "int") (by decide) ⟨_, ho, rfl⟩ (fun s' => typeIs_int s' k t) noFill_tuple_mul F.fills_int_mul F.slot_int_rmul repeat_tuple F.slot_int_index.lookup
        (call_meets F.slot_int_rmul (typeIs_int s k t) F.entry_int_rmul (F.args_int_rmul_2 _ _) (int_rmul_tuple k t l its.toArray n dd sl)
          ⟨ho, rfl, ⟨_, ho, rfl⟩, call_meets F.slot_tuple_mul ⟨_, ho, rfl⟩ F.entry_tuple_mul (F.args_tuple_mul_2 _ _) (tuple_mulW l its.toArray n dd sl k t c0 c1 c2 (by rw [hm]; omega) c4 (by rw [size_rep, List.size_toArray]; exact flen)) ⟨ho, ?_⟩⟩)
      rw [size_rep]
      refine ⟨.ref s.heap.objs.size, _, I.laid (t' := s.toks) (o := .tup (List.replicate k.toNat xs).flatten) (fun b ob q => Heap.get?_push_of_some _ q) (Nat.le_refl _) ?_, rfl, q2 hs1 _ (I.hok.fresh (Nat.le_refl _))⟩
      exact ⟨by rw [PyProof.Rows.lm_len_rep_flat, Nat.mul_comm]; exact hz, _, r.rep k.toNat, IsTup.new _ _⟩
end
/-! ### the operations over data -/
def Keeps (H H' : Hp) : Prop := ∀ b o, H b = some o → H' b = some o
def rD1 (K : PySem.W.Frag) (f : PyData → Option PyData) : V → Hp → VK → Prop := fun x H Q => ∃ Z d r, Rep K H Z x d ∧ f d = some r ∧ (∀ a, Z a → H a ≠ none) ∧ ∀ v H', Keeps H H' → Rep K H' Z v r → Q v H'
def rD2 (K : PySem.W.Frag) (f : PyData → PyData → Option PyData) : R2 := fun x y H Q => ∃ Z d e r, Rep K H Z x d ∧ Rep K H Z y e ∧ f d e = some r ∧ (∀ a, Z a → H a ≠ none) ∧ ∀ v H', Keeps H H' → Rep K H' Z v r → Q v H'
def rDs (K : PySem.W.Frag) (f : List PyData → Option PyData) : List V → Hp → VK → Prop := fun xs H Q => ∃ Z ds r, Reps K H Z xs ds ∧ f ds = some r ∧ (∀ a, Z a → H a ≠ none) ∧ ∀ v H', Keeps H H' → Rep K H' Z v r → Q v H'
theorem Keeps.refl (H : Hp) : Keeps H H := fun _ _ h => h
theorem Keeps.upd {H : Hp} {p : Addr} {o : HO} (n : H p = none) : Keeps H (upd H p o) := fun b u e => by rw [upd_ne (ne_of_none e n)]; exact e
section
variable {K : PySem.W.Frag} {H H' : Hp} {Z : Addr → Prop}
theorem Rep.keeps {v : V} {d : PyData} (k : Keeps H H') (r : Rep K H Z v d) : Rep K H' Z v d := r.move (fun b o h _ => k b o h) (fun _ _ n => n) d v
theorem Reps.keeps {vs : List V} {ds : List PyData} (k : Keeps H H') (r : Reps K H Z vs ds) : Reps K H' Z vs ds := r.move (fun b o h _ => k b o h) (fun _ _ n => n) ds vs
/-- a new list, a new tuple -/
theorem Rep.newL {p : Addr} {xs : List V} {ds : List PyData} (n : H p = none) (tr : ∀ a, Z a → H a ≠ none) (hz : xs.length ≤ sizeLine) (r : Reps K H Z xs ds) : Rep K (upd H p (.lst xs)) Z (.ref p) (.list ds) :=
  .lst upd_same (fun z => tr p z n) hz (r.keeps (Keeps.upd n))
theorem Rep.newT {p : Addr} {xs : List V} {ds : List PyData} (n : H p = none) (tr : ∀ a, Z a → H a ≠ none) (hz : xs.length ≤ sizeLine) (r : Reps K H Z xs ds) : Rep K (upd H p (.tup xs)) Z (.ref p) (.tuple ds) :=
  .tup upd_same (fun z => tr p z n) hz (r.keeps (Keeps.upd n))
mutual
theorem Rep.plain : ∀ (d : PyData) (v : V), Rep K H Z v d → d.plain = true
  | .none, _, _ => rfl
  | .bool _, _, _ => rfl
  | .int _, _, _ => rfl
  | .str _, _, _ => rfl
  | .list ds, _, r => by
    cases r with
    | lst h n z rs => exact Reps.plain ds _ rs
  | .tuple ds, _, r => by
    cases r with
    | tup h n z rs => exact Reps.plain ds _ rs
    | tupK h z rs => exact Reps.plain ds _ rs
  | .dict _, _, r => by cases r
theorem Reps.plain : ∀ (ds : List PyData) (vs : List V), Reps K H Z vs ds → PyData.plainAll ds = true
  | [], _, _ => rfl
  | d :: ds, _, r => by
    cases r with
    | cons h t => simp [PyData.plainAll, Rep.plain d _ h, Reps.plain ds _ t]
end
end
section
variable {X : Cx} {pins : List (Addr × Obj)} {s : Shared} {σ : L2.St} {H : Hp}
theorem Rep.reads {Z : Addr → Prop} {v : V} {d : PyData} {u : Value} (I : Inv X pins σ H s) (r : Rep X.K H Z v d) (ru : RelV v u) : ∃ as, Reads s.heap u d as := Dp.reads I d v u (Rep.dp d v r) ru
theorem Reps.reads {Z : Addr → Prop} {vs : List V} {ds : List PyData} {us : List Value} (I : Inv X pins σ H s) (r : Reps X.K H Z vs ds) (ru : Vals vs us) : ∃ as, ReadsAll s.heap us ds as := Dp.readsAll I ds vs us (Reps.dp ds vs r) ru
theorem opD_add : OpR X (binaryOp .Add) (rD2 X.K (binop .add)) := by
  intro pins s σ H x y v u Q I rx ry h
  obtain ⟨Z, d, e, r, h1, h2, h3, tr, k⟩ := h
  cases d <;> cases e <;> try (simp [binop] at h3; done)
  · cases h1; cases h2; cases h3
    exact op_add pins s σ H _ _ v u Q I rx ry ⟨_, _, rfl, rfl, k _ _ (Keeps.refl _) (.int _)⟩
  · cases h1; cases h2
    simp only [binop] at h3
    split at h3
    · rename_i hz
      cases h3
      exact op_add_str pins s σ H _ _ v u Q I rx ry ⟨_, _, rfl, rfl, hz, k _ _ (Keeps.refl _) (.str _)⟩
    · cases h3
  · obtain ⟨a, xs, rfl, h1, _, z1, r1⟩ := h1.list
    obtain ⟨b, ys, rfl, h2, _, z2, r2⟩ := h2.list
    simp only [binop] at h3
    split at h3
    · rename_i hz
      cases h3
      rw [← r1.length, ← r2.length] at hz
      exact op_cat pins s σ H _ _ v u Q I rx ry ⟨_, _, _, _, rfl, rfl, h1, h2, hz, fun p hp => k _ _ (Keeps.upd hp) (Rep.newL hp tr (by rw [List.length_append]; exact hz) (r1.append r2))⟩
    · cases h3
  · obtain ⟨a, xs, rfl, h1', z1, r1⟩ := h1.tuple
    obtain ⟨b, ys, rfl, h2', z2, r2⟩ := h2.tuple
    simp only [binop] at h3
    split at h3
    · rename_i hz
      cases h3
      rw [← r1.length, ← r2.length] at hz
      refine op_catA pins s σ H _ _ v u Q I rx ry ⟨_, _, _, _, rfl, rfl, h1', h2', hz, fun e => ?_, fun _ e => ?_, fun _ _ p hp => k _ _ (Keeps.upd hp) (Rep.newT hp tr (by rw [List.length_append]; exact hz) (r1.append r2))⟩
      · subst e
        cases r1
        exact k _ _ (Keeps.refl _) h2
      · subst e
        cases r2
        rw [List.append_nil] at k
        exact k _ _ (Keeps.refl _) h1
    · cases h3
theorem opD_sub : OpR X (binaryOp .Sub) (rD2 X.K (binop .sub)) := by
  intro pins s σ H x y v u Q I rx ry h
  obtain ⟨Z, d, e, r, h1, h2, h3, tr, k⟩ := h
  cases d <;> cases e <;> try (simp [binop] at h3; done)
  cases h1; cases h2; cases h3
  exact op_sub pins s σ H _ _ v u Q I rx ry ⟨_, _, rfl, rfl, k _ _ (Keeps.refl _) (.int _)⟩
theorem len_rep {α : Type} (xs : List α) : ∀ k : Nat, ((List.replicate k xs).flatten).length = k * xs.length
  | 0 => by simp
  | k + 1 => by rw [List.replicate_succ, List.flatten_cons, List.length_append, len_rep xs k, Nat.succ_mul, Nat.add_comm]
theorem opD_mul : OpR X (binaryOp .Mult) (rD2 X.K (binop .mul)) := by
  intro pins s σ H x y v u Q I rx ry h
  obtain ⟨Z, d, e, r, h1, h2, h3, tr, k⟩ := h
  cases d <;> cases e <;> try (simp [binop] at h3; done)
  · cases h1; cases h2
    rename_i i j
    simp only [binop] at h3
    split at h3
    · rename_i hz
      cases h3
      simp only [mulOk, Bool.or_eq_true, Bool.and_eq_true, decide_eq_true_eq] at hz
      exact op_mul pins s σ H _ _ v u Q I rx ry ⟨_, _, rfl, rfl, hz, k _ _ (Keeps.refl _) (.int _)⟩
    · cases h3
  · cases h2
    obtain ⟨a, xs, rfl, h1, _, z1, r1⟩ := h1.list
    simp only [binop] at h3
    split at h3
    · rename_i hz
      cases h3
      simp only [repOk, Bool.and_eq_true, decide_eq_true_eq] at hz
      rw [← r1.length] at hz
      exact op_rep pins s σ H _ _ v u Q I rx ry ⟨_, _, _, rfl, rfl, h1, hz.1.1, hz.1.2, hz.2, fun p hp => k _ _ (Keeps.upd hp) (Rep.newL hp tr (by rw [len_rep, Nat.mul_comm]; exact hz.2) (r1.rep _))⟩
    · cases h3
  · cases h2
    obtain ⟨a, xs, rfl, h1', z1, r1⟩ := h1.tuple
    simp only [binop] at h3
    split at h3
    · rename_i hz
      cases h3
      simp only [repOk, Bool.and_eq_true, decide_eq_true_eq] at hz
      rw [← r1.length] at hz
      refine op_repA pins s σ H _ _ v u Q I rx ry ⟨_, _, _, rfl, rfl, h1', hz.1.1, hz.1.2, hz.2, fun e => ?_, fun _ p hp => k _ _ (Keeps.upd hp) (Rep.newT hp tr (by rw [len_rep, Nat.mul_comm]; exact hz.2) (r1.rep _))⟩
      refine k _ _ (Keeps.refl _) ?_
      have e2 : rep ‹List PyData› ‹Int› = ‹List PyData› := by
        unfold rep
        rcases e with e | e
        · subst e
          cases r1
          simp
        · subst e
          simp
      rw [e2]
      exact h1
    · cases h3
theorem opD_fdiv : OpR X (binaryOp .FloorDiv) (rD2 X.K (binop .fdiv)) := by
  intro pins s σ H x y v u Q I rx ry h
  obtain ⟨Z, d, e, r, h1, h2, h3, tr, k⟩ := h
  cases d <;> cases e <;> try (simp [binop] at h3; done)
  cases h1; cases h2
  simp only [binop] at h3
  split at h3
  · rename_i hz
    cases h3
    simp only [Bool.and_eq_true, decide_eq_true_eq] at hz
    exact op_fdivN pins s σ H _ _ v u Q I rx ry ⟨_, _, rfl, rfl, hz, k _ _ (Keeps.refl _) (.int _)⟩
  · cases h3
theorem opD_mod : OpR X (binaryOp .Mod) (rD2 X.K (binop .mod)) := by
  intro pins s σ H x y v u Q I rx ry h
  obtain ⟨Z, d, e, r, h1, h2, h3, tr, k⟩ := h
  cases d <;> cases e <;> try (simp [binop] at h3; done)
  cases h1; cases h2
  simp only [binop] at h3
  split at h3
  · rename_i hz
    cases h3
    simp only [decide_eq_true_eq] at hz
    exact op_modN pins s σ H _ _ v u Q I rx ry ⟨_, _, rfl, rfl, hz, k _ _ (Keeps.refl _) (.int _)⟩
  · cases h3
theorem opD_pow : OpR X (binaryOp .Pow) (rD2 X.K (binop .pow)) := by
  intro pins s σ H x y v u Q I rx ry h
  obtain ⟨Z, d, e, r, h1, h2, h3, tr, k⟩ := h
  cases d <;> cases e <;> try (simp [binop] at h3; done)
  cases h1; cases h2
  simp only [binop] at h3
  split at h3
  · rename_i hz
    cases h3
    simp only [Bool.and_eq_true, decide_eq_true_eq] at hz
    exact op_pow pins s σ H _ _ v u Q I rx ry ⟨_, _, rfl, rfl, ⟨hz.1.1, hz.1.2, hz.2⟩, k _ _ (Keeps.refl _) (.int _)⟩
  · cases h3
/-- a comparison's answer -/
def rC2 (K : PySem.W.Frag) (f : PyData → PyData → Option Bool) : R2 := fun x y H Q => ∃ Z d e r, Rep K H Z x d ∧ Rep K H Z y e ∧ f d e = some r ∧ Q (.bl r) H
theorem int_plain (i j : Int) : True := True.intro
section
variable (hu : X.A.units + 64 < cLine)
include hu
theorem opC_lt : OpR X (compareOp .Lt) (rC2 X.K (cmpop .lt)) := by
  intro pins s σ H x y v u Q I rx ry h
  obtain ⟨Z, d, e, r, h1, h2, h3, k⟩ := h
  obtain ⟨as, ra⟩ := h1.reads I rx
  obtain ⟨bs, rb⟩ := h2.reads I ry
  have h3 : ltD d e = some r := h3
  unfold ltD at h3
  split at h3
  · cases h1; cases h2; cases h3
    exact op_lt pins s σ H _ _ v u Q I rx ry ⟨_, _, rfl, rfl, k⟩
  · split at h3
    · rename_i hz
      cases h3
      simp only [ordOk, Bool.and_eq_true, decide_eq_true_eq, Bool.not_eq_true'] at hz
      exact lt_data ra rb hz.1.2 (fun e => by subst e; simp [isNone] at hz) (by omega) ⟨.bl _, H, I, rfl, k⟩
    · cases h3
theorem opC_gt : OpR X (compareOp .Gt) (rC2 X.K (cmpop .gt)) := by
  intro pins s σ H x y v u Q I rx ry h
  obtain ⟨Z, d, e, r, h1, h2, h3, k⟩ := h
  obtain ⟨as, ra⟩ := h1.reads I rx
  obtain ⟨bs, rb⟩ := h2.reads I ry
  simp only [cmpop] at h3
  split at h3
  · cases h1; cases h2; cases h3
    exact op_gt pins s σ H _ _ v u Q I rx ry ⟨_, _, rfl, rfl, k⟩
  · split at h3
    · rename_i hz
      cases h3
      simp only [ordOk, Bool.and_eq_true, decide_eq_true_eq, Bool.not_eq_true'] at hz
      exact gt_data ra rb hz.1.2 (fun e => by subst e; simp [isNone] at hz) (by omega) ⟨.bl _, H, I, rfl, k⟩
    · cases h3
theorem opC_le : OpR X (compareOp .LtE) (rC2 X.K (cmpop .le)) := by
  intro pins s σ H x y v u Q I rx ry h
  obtain ⟨Z, d, e, r, h1, h2, h3, k⟩ := h
  obtain ⟨as, ra⟩ := h1.reads I rx
  obtain ⟨bs, rb⟩ := h2.reads I ry
  simp only [cmpop] at h3
  split at h3
  · cases h1; cases h2; cases h3
    exact op_le pins s σ H _ _ v u Q I rx ry ⟨_, _, rfl, rfl, k⟩
  · split at h3
    · rename_i hz
      cases h3
      simp only [ordOk, Bool.and_eq_true, decide_eq_true_eq, Bool.not_eq_true'] at hz
      exact le_data ra rb hz.1.2 (fun e => by subst e; simp [isNone] at hz) (by omega) ⟨.bl _, H, I, rfl, k⟩
    · cases h3
theorem opC_ge : OpR X (compareOp .GtE) (rC2 X.K (cmpop .ge)) := by
  intro pins s σ H x y v u Q I rx ry h
  obtain ⟨Z, d, e, r, h1, h2, h3, k⟩ := h
  obtain ⟨as, ra⟩ := h1.reads I rx
  obtain ⟨bs, rb⟩ := h2.reads I ry
  simp only [cmpop] at h3
  split at h3
  · cases h1; cases h2; cases h3
    exact op_ge pins s σ H _ _ v u Q I rx ry ⟨_, _, rfl, rfl, k⟩
  · split at h3
    · rename_i hz
      cases h3
      simp only [ordOk, Bool.and_eq_true, decide_eq_true_eq, Bool.not_eq_true'] at hz
      exact ge_data ra rb hz.1.2 (fun e => by subst e; simp [isNone] at hz) (by omega) ⟨.bl _, H, I, rfl, k⟩
    · cases h3
theorem dec_int_eq (i j : Int) : decide (V.int i = V.int j) = decide (i = j) := by
  by_cases h : i = j
  · subst h; simp
  · rw [decide_eq_false h, decide_eq_false fun e => h (V.int.inj e)]
theorem opC_eq : OpR X (compareOp .Eq) (rC2 X.K (cmpop .eq)) := by
  intro pins s σ H x y v u Q I rx ry h
  obtain ⟨Z, d, e, r, h1, h2, h3, k⟩ := h
  obtain ⟨as, ra⟩ := h1.reads I rx
  obtain ⟨bs, rb⟩ := h2.reads I ry
  have h3 : eqD d e = some r := h3
  unfold eqD at h3
  split at h3
  · cases h1; cases h2; cases h3
    rw [← dec_int_eq hu] at k
    exact op_eq pins s σ H _ _ v u Q I rx ry ⟨rfl, k⟩
  · split at h3
    · rename_i hz
      cases h3
      simp only [decide_eq_true_eq] at hz
      exact PySem.SeqAt.eq_plain ra rb (h1.plain _ _) (h2.plain _ _) (by omega) ⟨.bl _, H, I, rfl, k⟩
    · cases h3
theorem opC_ne : OpR X (compareOp .NotEq) (rC2 X.K (cmpop .ne)) := by
  intro pins s σ H x y v u Q I rx ry h
  obtain ⟨Z, d, e, r, h1, h2, h3, k⟩ := h
  obtain ⟨as, ra⟩ := h1.reads I rx
  obtain ⟨bs, rb⟩ := h2.reads I ry
  simp only [cmpop, Option.map_eq_some_iff] at h3
  obtain ⟨r0, h3, e0⟩ := h3
  subst e0
  unfold eqD at h3
  split at h3
  · cases h1; cases h2; cases h3
    rw [← dec_int_eq hu] at k
    exact op_ne pins s σ H _ _ v u Q I rx ry ⟨rfl, k⟩
  · split at h3
    · rename_i hz
      cases h3
      simp only [decide_eq_true_eq] at hz
      exact PySem.SeqAt.ne_plain ra rb (h1.plain _ _) (h2.plain _ _) (by omega) ⟨.bl _, H, I, rfl, k⟩
    · cases h3
theorem opC_in : OpR X (compareOp .In) (rC2 X.K (cmpop .isin)) := by
  intro pins s σ H x y v u Q I rx ry h
  obtain ⟨Z, d, e, r, h1, h2, h3, k⟩ := h
  obtain ⟨as, ra⟩ := h1.reads I rx
  obtain ⟨bs, rb⟩ := h2.reads I ry
  have h3 : inOp d e = some r := h3
  unfold inOp at h3
  split at h3
  · split at h3
    · rename_i hz
      cases h3
      simp only [decide_eq_true_eq] at hz
      exact PySem.SeqAt.in_list_data rb ra (h2.plain _ _) (h1.plain _ _) (by omega) ⟨.bl _, H, I, rfl, k⟩
    · cases h3
  · split at h3
    · rename_i hz
      cases h3
      simp only [decide_eq_true_eq] at hz
      exact PySem.SeqAt.in_tuple_data rb ra (h2.plain _ _) (h1.plain _ _) (by omega) ⟨.bl _, H, I, rfl, k⟩
    · cases h3
  · cases h3
theorem opC_notin : OpR X (compareOp .NotIn) (rC2 X.K (cmpop .notin)) := by
  intro pins s σ H x y v u Q I rx ry h
  obtain ⟨Z, d, e, r, h1, h2, h3, k⟩ := h
  obtain ⟨as, ra⟩ := h1.reads I rx
  obtain ⟨bs, rb⟩ := h2.reads I ry
  simp only [cmpop, Option.map_eq_some_iff] at h3
  obtain ⟨r0, h3, e0⟩ := h3
  subst e0
  unfold inOp at h3
  split at h3
  · split at h3
    · rename_i hz
      cases h3
      simp only [decide_eq_true_eq] at hz
      exact PySem.SeqAt.notIn_list_data rb ra (h2.plain _ _) (h1.plain _ _) (by omega) ⟨.bl _, H, I, rfl, k⟩
    · cases h3
  · split at h3
    · rename_i hz
      cases h3
      simp only [decide_eq_true_eq] at hz
      exact PySem.SeqAt.notIn_tuple_data rb ra (h2.plain _ _) (h1.plain _ _) (by omega) ⟨.bl _, H, I, rfl, k⟩
    · cases h3
  · cases h3
end
theorem Rep.isNon {Z : Addr → Prop} {v : V} {d : PyData} (r : Rep X.K H Z v d) : decide (v = .non) = isNone d := by
  cases r <;> simp [isNone]
theorem opC_is : OpR X (compareOp .Is) (rC2 X.K (cmpop .is_)) := by
  intro pins s σ H x y v u Q I rx ry h
  obtain ⟨Z, d, e, r, h1, h2, h3, k⟩ := h
  have h3 : isOp d e = some r := h3
  cases e <;> try (cases d <;> simp [isOp] at h3; done)
  · cases h2
    refine op_isN pins s σ H _ _ v u Q I rx ry ⟨rfl, ?_⟩
    rw [h1.isNon]
    cases d <;> simp_all [isOp, isNone]
  · cases h2
    cases d <;> simp only [isOp] at h3 <;> try (cases h3; done)
    · cases h1; cases h3
      cases rx; cases ry
      exact wpAny_is_other rfl (fun z => nomatch z) ⟨.bl false, H, I, rfl, k⟩
    · cases h1; cases h3
      refine op_isBl pins s σ H _ _ v u Q I rx ry ⟨_, _, rfl, rfl, ?_⟩
      rw [Bool.beq_eq_decide_eq] at k
      exact k
    · cases h1; cases h3
      obtain ⟨t, rfl⟩ := rx
      cases ry
      exact wpAny_is_other rfl (fun z => nomatch z) ⟨.bl false, H, I, rfl, k⟩
    · cases h1; cases h3
      obtain ⟨t, rfl⟩ := rx
      cases ry
      exact wpAny_is_other rfl (fun z => nomatch z) ⟨.bl false, H, I, rfl, k⟩
    · cases h3
      obtain ⟨a, xs, rfl, _⟩ := h1.list
      cases rx; cases ry
      exact wpAny_is_other rfl (fun z => nomatch z) ⟨.bl false, H, I, rfl, k⟩
    · cases h3
      obtain ⟨a, xs, rfl, _⟩ := h1.tuple
      cases rx; cases ry
      exact wpAny_is_other rfl (fun z => nomatch z) ⟨.bl false, H, I, rfl, k⟩
theorem opC_isn : OpR X (compareOp .IsNot) (rC2 X.K (cmpop .isn)) := by
  intro pins s σ H x y v u Q I rx ry h
  obtain ⟨Z, d, e, r, h1, h2, h3, k⟩ := h
  simp only [cmpop, Option.map_eq_some_iff] at h3
  obtain ⟨r0, h3, e0⟩ := h3
  subst e0
  cases e <;> try (cases d <;> simp [isOp] at h3; done)
  · cases h2
    refine op_notN pins s σ H _ _ v u Q I rx ry ⟨rfl, ?_⟩
    rw [h1.isNon]
    cases d <;> simp_all [isOp, isNone]
  · cases h2
    cases d <;> simp only [isOp] at h3 <;> try (cases h3; done)
    · cases h1; cases h3
      cases rx; cases ry
      exact wpAny_isNot_other rfl (fun z => nomatch z) ⟨.bl true, H, I, rfl, k⟩
    · cases h1; cases h3
      refine op_notBl pins s σ H _ _ v u Q I rx ry ⟨_, _, rfl, rfl, ?_⟩
      rw [Bool.beq_eq_decide_eq] at k
      exact k
    · cases h1; cases h3
      obtain ⟨t, rfl⟩ := rx
      cases ry
      exact wpAny_isNot_other rfl (fun z => nomatch z) ⟨.bl true, H, I, rfl, k⟩
    · cases h1; cases h3
      obtain ⟨t, rfl⟩ := rx
      cases ry
      exact wpAny_isNot_other rfl (fun z => nomatch z) ⟨.bl true, H, I, rfl, k⟩
    · cases h3
      obtain ⟨a, xs, rfl, _⟩ := h1.list
      cases rx; cases ry
      exact wpAny_isNot_other rfl (fun z => nomatch z) ⟨.bl true, H, I, rfl, k⟩
    · cases h3
      obtain ⟨a, xs, rfl, _⟩ := h1.tuple
      cases rx; cases ry
      exact wpAny_isNot_other rfl (fun z => nomatch z) ⟨.bl true, H, I, rfl, k⟩
end
end Wv

set_option Elab.async false
set_option autoImplicit false
set_option linter.all false
set_option maxRecDepth 100000
set_option maxHeartbeats 4000000
/-! ### lists of tuples, an empty one first, are sorted -/
namespace PySem.W
open PySem PySem.Calls PyProof.Rows PySem.SeqAt
section
variable {prog : Program} {w : World} {A : Around} {E : Value → Shared → Prop} {s : Shared}
theorem wv_call_tuple_lt {Q : Value → Shared → Prop} {l b : Addr} {items items2 : Array Value} {e r : Nat → Bool} (hl : s.heap.IsTuple l items) (hb : s.heap.IsTuple b items2)
    (he : ∀ j (h1 : j < items.size) (h2 : j < items2.size), EqAt A.in1 s items[j] items2[j] (e j)) (hr : ∀ j (h1 : j < items.size) (h2 : j < items2.size), e j = false → RcLt A.in1 s items[j] items2[j] (r j))
    (h : Q (.bool (firstLt e r (decide (items.size < items2.size)) (List.range (min items.size items2.size)))) s) : wpAny (model prog w) A (call (.builtin "tuple.__lt__") [.ref l, .ref b]) Q E s := by
  obtain ⟨⟨cls, dd, data, sl⟩, ho, hc, n, hd⟩ := id hl
  obtain ⟨⟨cls2, dd2, data2, sl2⟩, ho2, hc2, n2, hd2⟩ := id hb
  simp only at hc hd hc2 hd2
  subst hc hd hc2 hd2
  exact call_meets F.slot_tuple_lt ⟨_, ho, rfl⟩ F.entry_tuple_lt (F.args_tuple_lt_2 _ _) (tuple_ltAt l b items items2 n n2 dd dd2 sl sl2 e r) ⟨ho, ho2, he, hr, h⟩
theorem wv_oneLt_tup {xs ys : List PyData} {a b : Value} {as bs : List Addr} {Q : Bool → Shared → Prop} (ra : Reads s.heap a (.tuple xs) as) (rb : Reads s.heap b (.tuple ys) bs) (h : alike (.tuple xs) (.tuple ys) = true)
    (hu : A.units + min (PyData.depth (.tuple xs)) (PyData.depth (.tuple ys)) < cLine) (hq : Q (dataLt (.tuple xs) (.tuple ys)) s) : wpAny (model prog w) A (oneLt' true a b) Q E s := by
  have hal : alikeAll xs ys = true := by simpa [alike] using h
  cases ra with
  | @tuple l o vs n _ as₁ h1 h2 h3 h4 =>
    cases rb with
    | @tuple l' o' vs' n' _ bs₁ k1 k2 k3 k4 =>
      have n1 : vs.size = xs.length := by simpa using ReadsAll.length _ _ _ h4
      have n2 : vs'.size = ys.length := by simpa using ReadsAll.length _ _ _ k4
      rw [dataLt_tuple, ← firstLt_toks xs ys hal, ← n1, ← n2] at hq
      rw [oneLt'_eq]
      simp only [if_true]
      refine wpAny_bind (wpAny_cRoomFor (room_here hu) ?_)
      refine wpAny_bind (wpAny_callSpecialIfBound?_slot (T := "tuple") ⟨_, h1, h2⟩ F.slot_tuple_lt (wv_call_tuple_lt (e := pairEq xs ys) (r := fun j => dataLt (xs.getD j .none) (ys.getD j .none)) ⟨_, h1, h2, _, h3⟩ ⟨_, k1, k2, _, k3⟩ (fun j j1 j2 => ?_) (fun j j1 j2 hj => ?_) ?_))
      · have := eqAt_alikeAll xs ys A.in1 s vs.toList vs'.toList _ _ h4 k4 hal (room_in hu) j (by simpa using j1) (by simpa using j2)
        simpa using this
      · have := rcLt_alikeAll xs ys A.in1 s vs.toList vs'.toList _ _ h4 k4 hal (room_in hu) j (by simpa using j1) (by simpa using j2) hj
        simpa using this
      · exact wpAny_truthy_bool hq
theorem wv_firsts {M : Model} : ∀ (vs : List Value) {Q : List (Option Value) → Shared → Prop}, (∀ v ∈ vs, ∃ xs as, Reads s.heap v (.tuple xs) as) → (∀ fs : List (Option Value), fs.length = vs.length → (∀ v r as, vs = v :: r → Reads s.heap v (.tuple []) as → ∃ r', fs = none :: r') → Q fs s) → wpAny M A (vs.mapM firstOfTuple') Q E s
  | [], Q, _, h => by rw [List.mapM_nil]; exact wpAny_pure (h [] rfl fun v r as e => by cases e)
  | v :: vs, Q, t, h => by
    obtain ⟨xs, as, r⟩ := t v List.mem_cons_self
    rw [List.mapM_cons]
    refine wpAny_bind ?_
    rw [kas_first_eq]
    cases r with
    | @tuple a o its n _ _ h1 h2 h3 h4 =>
      refine wpAny_bind (Looks.here (show Looks M s.heap (typeOf (.ref a)) o.cls from (Looks.ld h1).andThen .now) ?_)
      rw [h2, if_neg (by first | decide | simp)]
      refine wpAny_bind (listItems_at h1 h3 (wpAny_pure ?_))
      refine wpAny_bind (wv_firsts vs (Q := fun bs s' => wpAny M A (pure (its[0]? :: bs)) Q E s') (fun v hv => t v (List.mem_cons_of_mem _ hv)) fun fs hl _ => wpAny_pure (h _ (by simp [hl]) fun v' r' as' e r0 => ?_))
      cases e
      refine ⟨fs, ?_⟩
      cases r0 with
      | @tuple _ o' its' n' _ _ k1 k2 k3 k4 =>
        rw [h1] at k1
        cases k1
        rw [h3] at k3
        cases k3
        have hz : its.size = 0 := by simpa using SeqAt.ReadsAll.length _ _ _ k4
        have : its[0]? = none := by rw [Array.getElem?_eq_none_iff]; omega
        rw [this]
theorem wv_kind {M : Model} {vs : List Value} {Q : SortKind → Shared → Prop} (h2 : 2 ≤ vs.length) (hT : ∀ v ∈ vs, ∃ xs as, Reads s.heap v (.tuple xs) as) (h0 : ∃ v r as, vs = v :: r ∧ Reads s.heap v (.tuple []) as) (h : Q oneType' s) :
    wpAny M A (keyKind' vs.toArray) Q E s := by
  obtain ⟨v₁, r₁, as₁, e₁, rd₁⟩ := h0
  rw [keyKind'_eq, List.mapM_toArray, map_eq_pure_bind]
  refine wpAny_bind (wpAny_bind (wv_firsts vs hT fun fs hl hf => wpAny_pure ?_))
  obtain ⟨r', e'⟩ := hf v₁ r₁ as₁ e₁ rd₁
  subst e'
  rw [if_neg (by simp), if_neg (by simp)]
  rw [oneTypeOnly'_eq, List.mapM_toArray, map_eq_pure_bind]
  refine wpAny_bind (wpAny_bind (wpAny_bind (kas_mapM (r := Value.type "tuple") _ (fun v hv Q' hq => ?_) (wpAny_pure ?_))))
  · obtain ⟨xs, as, r⟩ := hT v hv
    exact (looks_reads r).here hq
  · have hall : ((List.map (fun _ => Value.type "tuple") vs).toArray.all fun x => x == Value.type "tuple") = true := by
      simp only [List.all_toArray, List.all_map, List.all_eq_true]
      intro _ _
      simp
    have h0 : (List.map (fun _ => Value.type "tuple") vs).toArray[0]? = some (Value.type "tuple") := by rw [e₁]; simp
    rw [h0]
    simp only [hall, if_true]
    exact wpAny_pure (wpAny_pure h)
/-- alike tuples, an empty one first -/
theorem SortsAt.tup0 {vs : List Value} {ds : List PyData} (e : EachIs (fun v d => ∃ as, Reads s.heap v d as) vs ds) (hal : AllAlike ds) (ht : ∀ d, d ∈ ds → ∃ xs, d = .tuple xs) (h0 : ∃ r, ds = .tuple [] :: r) (hu : ∀ d, d ∈ ds → A.units + d.depth < cLine) : SortsAt prog w A s (dataKind s.heap ds) vs := by
  have room : ∀ {d d' : PyData}, d ∈ ds → A.units + min d.depth d'.depth < cLine := fun {d d'} hd => Nat.lt_of_le_of_lt (Nat.add_le_add_left (Nat.min_le_left _ _) _) (hu d hd)
  refine ⟨fun v hv => ?_, ?_⟩
  · obtain ⟨d, hd, as, r⟩ := e.left v hv
    exact ⟨_, dataKind_some hal hd r⟩
  · refine ⟨oneType', ?_, fun h2 E Q hq => ?_⟩
    · intro E x y a b Q ha hb hq
      obtain ⟨d, as, hd, ra, rfl⟩ := dataKind_inv ha
      obtain ⟨d', as', hd', rb, rfl⟩ := dataKind_inv hb
      rw [keyLt'_oneType]
      obtain ⟨x1, rfl⟩ := ht d hd
      obtain ⟨x2, rfl⟩ := ht d' hd'
      exact wv_oneLt_tup ra rb (hal _ hd _ hd') (room hd) hq
    · refine wv_kind h2 (fun v hv => ?_) ?_ hq
      · obtain ⟨d, hd, as, r⟩ := e.left v hv
        obtain ⟨xs, rfl⟩ := ht d hd
        exact ⟨xs, as, r⟩
      · obtain ⟨r, rfl⟩ := h0
        cases e with
        | cons h t =>
          obtain ⟨as, h⟩ := h
          exact ⟨_, _, as, rfl, h⟩
theorem sorted_data0 {β : Type} {vs : List Value} {bs : List β} {enc : β → PyData} {R : Value → β → Prop} {l : Addr} {Q : Value → Shared → Prop} (hl : s.heap.IsList l vs.toArray) (e : EachIs R vs bs) (er : EachIs (fun v b => ∃ as, Reads s.heap v (enc b) as) vs bs) (hal : AllAlike (bs.map enc))
    (ht : ∀ d, d ∈ bs.map enc → ∃ xs, d = .tuple xs) (h0 : ∃ r, bs.map enc = .tuple [] :: r) (hL : bs.length ≤ sizeLine)
    (hu : ∀ b, b ∈ bs → A.units + 2 + (enc b).depth < cLine) (h : ∀ out, out.length = bs.length → EachIs R out (bs.mergeSort (dataLe false enc)) → Q (.ref (s.heap.objs.size + 1)) { s with heap := sortedAll s.heap vs (List.toArray out) }) :
    wpAny (model prog w) A (call (.builtin "sorted") [.ref l]) Q E s := by
  have er' : EachIs (fun v b => ∃ as, Reads (sortingHeap (copyHeap s.heap vs) (s.heap.objs.size + 1) vs) v (enc b) as) vs bs := er.mono fun _ _ ⟨as, r⟩ => ⟨as, PyProof.Rows.Reads.keeps (fun _ _ => sorting_copy_old) r⟩
  exact sorted_vals hl (SortsAt.tup0 (s := { s with heap := sortingHeap (copyHeap s.heap vs) (s.heap.objs.size + 1) vs }) (each_map (R := fun v d => ∃ as, Reads (sortingHeap (copyHeap s.heap vs) (s.heap.objs.size + 1) vs) v d as) enc er') hal ht h0 (bound_map hu)) (by rw [e.length]; exact hL)
    (h _ (by rw [sortVals_length false rfl]; exact e.length) (sortVals_data false e er' hal))
end
end PySem.W
namespace Wv
open PySem PySem.Spec PyProof.Rows L2 PySem.W
section
variable {X : Cx}
theorem cb_len : CallR X (.builtin "len") (rDs X.K bLen) := by
  intro pins s σ H xs us Q I r h
  obtain ⟨Z, ds, d, h1, h2, tr, k⟩ := h
  unfold bLen at h2
  split at h2
  · cases h1 with
    | cons a t =>
      cases t
      cases a
      split at h2
      · rename_i hz
        cases h2
        exact call_len pins s σ H _ us Q I r ⟨_, _, rfl, ⟨hz, rfl⟩, k _ _ (Keeps.refl _) (.int _)⟩
      · cases h2
  · cases h1 with
    | cons a t =>
      cases t
      cases h2
      obtain ⟨b, ys, rfl, hh, _, hz, rs⟩ := a.list
      rw [← rs.length] at k
      exact call_len_seq pins s σ H _ us Q I r ⟨_, _, rfl, .inl (SqL.of hh), k _ _ (Keeps.refl _) (.int _)⟩
  · cases h1 with
    | cons a t =>
      cases t
      cases h2
      obtain ⟨b, ys, rfl, hh, hz, rs⟩ := a.tuple
      rw [← rs.length] at k
      exact call_len_seq pins s σ H _ us Q I r ⟨_, _, rfl, .inr hh, k _ _ (Keeps.refl _) (.int _)⟩
  · cases h2
theorem reps1 {K : PySem.W.Frag} {H : Hp} {Z : Addr → Prop} {vs : List V} {d : PyData} (h : Reps K H Z vs [d]) : ∃ v, vs = [v] ∧ Rep K H Z v d := by
  cases h with
  | cons a t => cases t; exact ⟨_, rfl, a⟩
theorem reps2 {K : PySem.W.Frag} {H : Hp} {Z : Addr → Prop} {vs : List V} {d e : PyData} (h : Reps K H Z vs [d, e]) : ∃ v w, vs = [v, w] ∧ Rep K H Z v d ∧ Rep K H Z w e := by
  cases h with
  | cons a t =>
    obtain ⟨w, rfl, b⟩ := reps1 t
    exact ⟨_, _, rfl, a, b⟩
theorem preSum_sum : ∀ (ns : List Int), preSum (fun i => ns.getD i 0) ns.length = ns.sum := fun ns => by
  have h : ∀ k, k ≤ ns.length → preSum (fun i => ns.getD i 0) k = (ns.take k).sum := by
    intro k
    induction k with
    | zero => intro _; simp [preSum]
    | succ k ih =>
      intro hk
      rw [List.take_succ, List.sum_append, ← ih (by omega)]
      have : ns[k]? = some ns[k] := List.getElem?_eq_getElem hk
      simp [preSum, this, List.getD_eq_getElem?_getD]
  rw [h _ (Nat.le_refl _), List.take_length]
theorem cb_sum (hc : X.calm = true) : CallR X (.builtin "sum") (rDs X.K bSum) := by
  intro pins s σ H xs us Q I r h
  obtain ⟨Z, ds, d, h1, h2, tr, k⟩ := h
  unfold bSum at h2
  split at h2
  · obtain ⟨v, rfl, a⟩ := reps1 h1
    obtain ⟨ns, hn, e⟩ := Option.map_eq_some_iff.mp h2
    subst e
    obtain ⟨b, ys, rfl, hh, _, hz, rs⟩ := a.list
    have e := rs.ints hn
    subst e
    exact cr_sum hc pins s σ H _ us Q I r ⟨_, _, rfl, SqL.of hh, k _ _ (Keeps.refl _) (.int _)⟩
  · obtain ⟨v, rfl, a⟩ := reps1 h1
    obtain ⟨ns, hn, e⟩ := Option.map_eq_some_iff.mp h2
    subst e
    obtain ⟨b, ys, rfl, hh, hz, rs⟩ := a.tuple
    have e := rs.ints hn
    subst e
    obtain ⟨u, rfl, ru⟩ := vals1 r
    cases ru
    obtain ⟨its, rv, p, _⟩ := I.tuple hh
    have hd := I.ok.hd hc
    have hlen : its.length = ns.length := by have := rv.length; simp at this; omega
    refine call_sum_walkAnyS (iter_tupleW (A := X.A.in1) hd (show s.heap.IsTuple b its.toArray from p) fun s₂ e W st hfp hw hk => ?_)
    refine ⟨_, _, _, _, _, _, _, fun i => ns.getD i 0, rfl, W, st, hfp, fun i v hv => ?_, fun s' t' m => ?_⟩
    · have hv' : its[i]? = some v := by simpa using hv
      obtain ⟨h1, h2⟩ := List.getElem?_eq_some_iff.mp hv'
      obtain ⟨u2, hu2, ru2⟩ := rv.get (i := i) (x := .int (ns.getD i 0)) (by rw [List.getElem?_map, List.getD_eq_getElem?_getD]; simp [show i < ns.length by omega])
      rw [hv'] at hu2
      cases hu2
      exact ru2
    · obtain ⟨h', tk, rfl, hk'⟩ := moved_old e rfl m
      have e0 : its.toArray.size = ns.length := by simpa using hlen
      rw [e0, preSum_sum]
      exact ⟨.int _, H, I.kept hk', ⟨_, rfl⟩, k _ _ (Keeps.refl _) (.int _)⟩
  · cases h2
theorem cb_any (hc : X.calm = true) : CallR X (.builtin "any") (rDs X.K bAny) := by
  intro pins s σ H xs us Q I r h
  obtain ⟨Z, ds, d, h1, h2, tr, k⟩ := h
  unfold bAny at h2
  split at h2
  · obtain ⟨v, rfl, a⟩ := reps1 h1
    obtain ⟨ns, hn, e⟩ := Option.map_eq_some_iff.mp h2
    subst e
    obtain ⟨b, ys, rfl, hh, _, hz, rs⟩ := a.list
    have e := rs.bools hn
    subst e
    exact cr_any hc pins s σ H _ us Q I r ⟨_, _, rfl, SqL.of hh, k _ _ (Keeps.refl _) (.bl _)⟩
  · cases h2
theorem cb_all (hc : X.calm = true) : CallR X (.builtin "all") (rDs X.K bAll) := by
  intro pins s σ H xs us Q I r h
  obtain ⟨Z, ds, d, h1, h2, tr, k⟩ := h
  unfold bAll at h2
  split at h2
  · obtain ⟨v, rfl, a⟩ := reps1 h1
    obtain ⟨ns, hn, e⟩ := Option.map_eq_some_iff.mp h2
    subst e
    obtain ⟨b, ys, rfl, hh, _, hz, rs⟩ := a.list
    have e := rs.bools hn
    subst e
    exact cr_all hc pins s σ H _ us Q I r ⟨_, _, rfl, SqL.of hh, k _ _ (Keeps.refl _) (.bl _)⟩
  · cases h2
/-- alike, as the library says it -/
theorem alikeAll_of {ds : List PyData} (h : alikeAllB ds = true) : AlikeAll ds := by
  simp only [alikeAllB, List.all_eq_true, Bool.and_eq_true, Bool.not_eq_true'] at h
  exact ⟨fun x hx y hy => (h x hx).2 y hy, fun x hx e => by have := (h x hx).1; rw [e] at this; simp [isNone] at this⟩
theorem allAlike_of {ds : List PyData} (h : alikeAllB ds = true) : AllAlike ds := fun x hx y hy => (alikeAll_of h).1 x hx y hy
theorem depth_mem : ∀ {ds : List PyData} {d : PyData}, d ∈ ds → d.depth ≤ PyData.depthAll ds
  | x :: xs, d, h => by
    rw [PyData.depthAll]
    rcases List.mem_cons.mp h with e | e
    · subst e; exact Nat.le_max_left _ _
    · exact Nat.le_trans (depth_mem e) (Nat.le_max_right _ _)
/-- the item that min, max hand back -/
theorem mm_item {pins : List (Addr × Obj)} {s : Shared} {σ : L2.St} {H : Hp} {Z : Addr → Prop} {xs : List V} {its : List Value} {ds : List PyData} {m : PyData} {i : Nat} {v : Value} {h' : Heap} {bs : List Addr} (I : L2.Inv X pins σ H s) (rs : Reps X.K H Z xs ds) (rv : L2.Vals xs its)
    (hm : m ∈ ds) (ha : alikeAllB ds = true) (hv : its.toArray[i]? = some v) (hr : Reads h' v m bs) (hk : ∀ b o, s.heap.get? b = some o → h'.get? b = some o) : ∃ x, L2.RelV x v ∧ Rep X.K H Z x m := by
  have hv' : its[i]? = some v := by simpa using hv
  have hlt : i < xs.length := by rw [rv.length]; exact (List.getElem?_eq_some_iff.mp hv').1
  obtain ⟨u2, hu2, ru2⟩ := rv.get (i := i) (x := xs[i]) (List.getElem?_eq_getElem hlt)
  rw [hv'] at hu2
  cases hu2
  obtain ⟨d, hd, rd⟩ := rs.get (List.getElem?_eq_getElem hlt)
  obtain ⟨as, r1⟩ := rd.reads I ru2
  have e := alike_unique d m v as bs ((alikeAll_of ha).1 d (List.mem_of_getElem? hd) m hm) (reads_keeps hk r1) hr
  subst e
  exact ⟨_, ru2, rd⟩
theorem best_mem {f : PyData → PyData → Bool} : ∀ (xs : List PyData) (x : PyData), xs.foldl (fun a y => if f y a then y else a) x ∈ x :: xs
  | [], x => by simp
  | y :: ys, x => by
    rw [List.foldl_cons]
    have := best_mem (f := f) ys (if f y x then y else x)
    rcases List.mem_cons.mp this with e | e
    · rw [e]; split <;> simp
    · exact List.mem_cons_of_mem _ (List.mem_cons_of_mem _ e)
theorem minD_mem (x : PyData) (xs : List PyData) : minD x xs ∈ x :: xs := best_mem xs x
theorem maxD_mem (x : PyData) (xs : List PyData) : maxD x xs ∈ x :: xs := best_mem xs x
theorem cb_max (hc : X.calm = true) (hu : X.A.units + 64 < cLine) : CallR X (.builtin "max") (rDs X.K bMax) := by
  intro pins s σ H xs us Q I r h
  obtain ⟨Z, ds, d, h1, h2, tr, k⟩ := h
  unfold bMax at h2
  split at h2
  · obtain ⟨v, w, rfl, a, b⟩ := reps2 h1
    cases a; cases b; cases h2
    exact call_max2 hc pins s σ H _ us Q I r ⟨_, _, rfl, k _ _ (Keeps.refl _) (.int _)⟩
  all_goals first
    | (cases h2; done)
    | (split at h2
       · rename_i hz
         cases h2
         simp only [Bool.and_eq_true, depthOk, decide_eq_true_eq] at hz
         obtain ⟨v, rfl, a⟩ := reps1 h1
         first
           | (obtain ⟨b, ys, rfl, hh, _, hzl, rs⟩ := a.list
              obtain ⟨u, rfl, ru⟩ := vals1 r
              cases ru
              obtain ⟨its, rv, p, _⟩ := I.list (SqL.of hh)
              obtain ⟨as, ra⟩ := rs.reads I rv
              refine max_list_data (I.ok.hd hc) p.isList (by simpa using ra) (alikeAll_of hz.1) (by omega) fun i v h' tk bs hv hr hk => ?_
              obtain ⟨x, rx, rd⟩ := mm_item I rs rv (maxD_mem _ _) hz.1 hv hr hk
              exact ⟨x, H, I.kept hk, rx, k _ _ (Keeps.refl _) rd⟩)
           | (obtain ⟨b, ys, rfl, hh, hzl, rs⟩ := a.tuple
              obtain ⟨u, rfl, ru⟩ := vals1 r
              cases ru
              obtain ⟨its, rv, p, _⟩ := I.tuple hh
              obtain ⟨as, ra⟩ := rs.reads I rv
              refine max_tuple_data (I.ok.hd hc) (show s.heap.IsTuple b its.toArray from p) (by simpa using ra) (alikeAll_of hz.1) (by omega) fun i v h' tk bs hv hr hk => ?_
              obtain ⟨x, rx, rd⟩ := mm_item I rs rv (maxD_mem _ _) hz.1 hv hr hk
              exact ⟨x, H, I.kept hk, rx, k _ _ (Keeps.refl _) rd⟩)
       · cases h2)
theorem cb_min (hc : X.calm = true) (hu : X.A.units + 64 < cLine) : CallR X (.builtin "min") (rDs X.K bMin) := by
  intro pins s σ H xs us Q I r h
  obtain ⟨Z, ds, d, h1, h2, tr, k⟩ := h
  unfold bMin at h2
  split at h2
  · obtain ⟨v, w, rfl, a, b⟩ := reps2 h1
    cases a; cases b; cases h2
    exact call_min2 hc pins s σ H _ us Q I r ⟨_, _, rfl, k _ _ (Keeps.refl _) (.int _)⟩
  all_goals first
    | (cases h2; done)
    | (split at h2
       · rename_i hz
         cases h2
         simp only [Bool.and_eq_true, depthOk, decide_eq_true_eq] at hz
         obtain ⟨v, rfl, a⟩ := reps1 h1
         first
           | (obtain ⟨b, ys, rfl, hh, _, hzl, rs⟩ := a.list
              obtain ⟨u, rfl, ru⟩ := vals1 r
              cases ru
              obtain ⟨its, rv, p, _⟩ := I.list (SqL.of hh)
              obtain ⟨as, ra⟩ := rs.reads I rv
              refine min_list_data (I.ok.hd hc) p.isList (by simpa using ra) (alikeAll_of hz.1) (by omega) fun i v h' tk bs hv hr hk => ?_
              obtain ⟨x, rx, rd⟩ := mm_item I rs rv (minD_mem _ _) hz.1 hv hr hk
              exact ⟨x, H, I.kept hk, rx, k _ _ (Keeps.refl _) rd⟩)
           | (obtain ⟨b, ys, rfl, hh, hzl, rs⟩ := a.tuple
              obtain ⟨u, rfl, ru⟩ := vals1 r
              cases ru
              obtain ⟨its, rv, p, _⟩ := I.tuple hh
              obtain ⟨as, ra⟩ := rs.reads I rv
              refine min_tuple_data (I.ok.hd hc) (show s.heap.IsTuple b its.toArray from p) (by simpa using ra) (alikeAll_of hz.1) (by omega) fun i v h' tk bs hv hr hk => ?_
              obtain ⟨x, rx, rd⟩ := mm_item I rs rv (minD_mem _ _) hz.1 hv hr hk
              exact ⟨x, H, I.kept hk, rx, k _ _ (Keeps.refl _) rd⟩)
       · cases h2)
theorem each_of {K : PySem.W.Frag} {H : Hp} {Z : Addr → Prop} : ∀ {xs : List V} {ds : List PyData} {its : List Value}, Reps K H Z xs ds → L2.Vals xs its → EachIs (fun v d => ∃ x, L2.RelV x v ∧ Rep K H Z x d) its ds
  | _, _, _, .nil, .nil => .nil
  | _, _, _, .cons r t, .cons q u => .cons ⟨_, q, r⟩ (each_of t u)
theorem of_each {K : PySem.W.Frag} {H : Hp} {Z : Addr → Prop} : ∀ {ds : List PyData} {its : List Value}, EachIs (fun v d => ∃ x, L2.RelV x v ∧ Rep K H Z x d) its ds → ∃ xs, Reps K H Z xs ds ∧ L2.Vals xs its
  | _, _, .nil => ⟨[], .nil, .nil⟩
  | _, _, .cons ⟨x, q, r⟩ t => by
    obtain ⟨xs, a, b⟩ := of_each t
    exact ⟨x :: xs, .cons r a, .cons q b⟩
theorem cb_sorted (hu : X.A.units + 64 < cLine) : CallR X (.builtin "sorted") (rDs X.K bSorted) := by
  intro pins s σ H xs us Q I r h
  obtain ⟨Z, ds, d, h1, h2, tr, k⟩ := h
  unfold bSorted at h2
  split at h2
  · rename_i ds
    split at h2
    · rename_i hz
      cases h2
      simp only [Bool.and_eq_true, depthOk, decide_eq_true_eq] at hz
      obtain ⟨⟨ha, hdp⟩, hs⟩ := hz
      obtain ⟨v, rfl, a⟩ := reps1 h1
      obtain ⟨b, ys, rfl, hh, _, hzl, rs⟩ := a.list
      obtain ⟨u, rfl, ru⟩ := vals1 r
      cases ru
      obtain ⟨its, rv, p, _⟩ := I.list (SqL.of hh)
      have e1 := each_of rs rv
      have e2 : EachIs (fun v d => ∃ as, Reads s.heap v d as) its ds := e1.mono fun v d ⟨x, q, r⟩ => r.reads I q
      have hal : AllAlike (ds.map fun d => d) := by rw [List.map_id']; exact allAlike_of ha
      have hL : ds.length ≤ sizeLine := by rw [← rs.length]; exact hzl
      have hud : ∀ b, b ∈ ds → X.A.units + 2 + PyData.depth b < cLine := fun b hb => by have := depth_mem hb; omega
      have fin : ∀ out : List Value, out.length = ds.length → EachIs (fun v d => ∃ x, L2.RelV x v ∧ Rep X.K H Z x d) out (ds.mergeSort (dataLe false fun d => d)) → EP X pins σ Q (.ref (s.heap.objs.size + 1)) { s with heap := sortedAll s.heap its (List.toArray out) } := by
        intro out ho eo
        obtain ⟨zs, r1, r2⟩ := of_each eo
        obtain ⟨c, hc⟩ := sortedAll_at s.heap its (List.toArray out)
        have hn : H (s.heap.objs.size + 1) = none := I.hok.fresh (Nat.le_succ _)
        have hz2 : zs.length ≤ sizeLine := by rw [r2.length, ho]; exact hL
        refine ⟨.ref _, upd H (s.heap.objs.size + 1) (.lst zs), I.laid (t' := s.toks) (fun b o q => sortedAll_old q) (Nat.le_succ _) ⟨hz2, out, c, r2, hc⟩, rfl, k _ _ (Keeps.upd hn) (Rep.newL hn tr hz2 r1)⟩
      simp only [sortableB, Bool.or_eq_true, Bool.and_eq_true] at hs
      rcases hs with (hs | hs) | hs
      · refine sorted_data (enc := fun d => d) p.isList e1 e2 hal (.inl fun d hd => ?_) hL hud fin
        rw [List.map_id'] at hd
        have := List.all_eq_true.mp hs d hd
        cases d with
        | tuple xs => cases xs with
          | nil => simp [isTup1] at this
          | cons x r => exact ⟨_, _, rfl⟩
        | _ => simp [isTup1] at this
      · refine sorted_data (enc := fun d => d) p.isList e1 e2 hal (.inr fun d hd => ?_) hL hud fin
        rw [List.map_id'] at hd
        have := List.all_eq_true.mp hs d hd
        exact ⟨(alikeAll_of ha).2 d hd, fun xs e => by subst e; simp [isTup] at this⟩
      · refine sorted_data0 (enc := fun d => d) p.isList e1 e2 hal (fun d hd => ?_) ?_ hL hud fin
        · rw [List.map_id'] at hd
          have := List.all_eq_true.mp hs.2 d hd
          cases d with
          | tuple xs => exact ⟨_, rfl⟩
          | _ => simp [isTup] at this
        · rw [List.map_id']
          have := hs.1
          cases ds with
          | nil => simp [isTup0] at this
          | cons x r => cases x with
            | tuple xs => cases xs with
              | nil => exact ⟨_, rfl⟩
              | cons _ _ => simp [isTup0] at this
            | _ => simp [isTup0] at this
    · cases h2
  · cases h2
theorem cb_tuple : CallR X (.type "tuple") (rDs X.K bTuple) := by
  intro pins s σ H xs us Q I r h
  obtain ⟨Z, ds, d, h1, h2, tr, k⟩ := h
  unfold bTuple at h2
  split at h2
  · cases h2
    obtain ⟨v, rfl, a⟩ := reps1 h1
    obtain ⟨b, ys, rfl, hh, _, hz, rs⟩ := a.list
    exact call_tuple_of pins s σ H _ us Q I r ⟨_, _, rfl, .inl ⟨SqL.of hh, fun l hl => k _ _ (Keeps.upd hl) (Rep.newT hl tr hz rs)⟩⟩
  · cases h2
    obtain ⟨v, rfl, a⟩ := reps1 h1
    obtain ⟨b, ys, rfl, hh, hz, rs⟩ := a.tuple
    exact call_tuple_of pins s σ H _ us Q I r ⟨_, _, rfl, .inr ⟨hh, k _ _ (Keeps.refl _) a⟩⟩
  · cases h2
theorem cb_list : CallR X (.type "list") (rDs X.K bList) := by
  intro pins s σ H xs us Q I r h
  obtain ⟨Z, ds, d, h1, h2, tr, k⟩ := h
  unfold bList at h2
  split at h2
  · cases h2
    obtain ⟨v, rfl, a⟩ := reps1 h1
    obtain ⟨b, ys, rfl, hh, _, hz, rs⟩ := a.list
    exact call_list_of pins s σ H _ us Q I r ⟨_, _, rfl, .inl (SqL.of hh), fun l hl => k _ _ (Keeps.upd hl) (Rep.newL hl tr hz rs)⟩
  · cases h2
    obtain ⟨v, rfl, a⟩ := reps1 h1
    obtain ⟨b, ys, rfl, hh, hz, rs⟩ := a.tuple
    exact call_list_of pins s σ H _ us Q I r ⟨_, _, rfl, .inr hh, fun l hl => k _ _ (Keeps.upd hl) (Rep.newL hl tr hz rs)⟩
  · cases h2
theorem cb_abs : CallR X (.builtin "abs") (rDs X.K bAbs) := by
  intro pins s σ H xs us Q I r h
  obtain ⟨Z, ds, d, h1, h2, tr, k⟩ := h
  unfold bAbs at h2
  split at h2
  · cases h2
    obtain ⟨v, rfl, a⟩ := reps1 h1
    cases a
    exact call_abs pins s σ H _ us Q I r ⟨_, rfl, k _ _ (Keeps.refl _) (.int _)⟩
  · cases h2
theorem cb_int : CallR X (.type "int") (rDs X.K bInt) := by
  intro pins s σ H xs us Q I r h
  obtain ⟨Z, ds, d, h1, h2, tr, k⟩ := h
  unfold bInt at h2
  split at h2
  · cases h2
    obtain ⟨v, rfl, a⟩ := reps1 h1
    cases a
    exact call_int1 pins s σ H _ us Q I r (.inl ⟨_, rfl, k _ _ (Keeps.refl _) (.int _)⟩)
  · cases h2
end
end Wv

set_option Elab.async false
set_option autoImplicit false
set_option linter.all false
set_option maxRecDepth 100000
set_option maxHeartbeats 4000000
namespace Wv
open PySem PySem.Spec PyProof.Rows L2 PySem.W

structure Sg where
  XR : XRep
  call : Nat → List SV → M SV
  ms : List Nat

/-! ### readings by the small language -/
def tE (g : Sg) (Eo : XK) (K : PySem.W.Frag) (al : Bool) (x : Ex) : TE := fun σ H Q => ∃ F Z0 hd hc ρ s, Rel K F Z0 hd hc g.ms ρ s σ H ∧
  Post g.XR Eo hd hc H (fun H' v y => RepS K H' (Zal al Z0 hd g.ms ρ σ) hd v y) Q (evE g.call x ρ s)
def tT (g : Sg) (Eo : XK) (K : PySem.W.Frag) (x : Ex) : TT := fun σ H Q => ∃ F Z0 hd hc ρ s, Rel K F Z0 hd hc g.ms ρ s σ H ∧
  Post g.XR Eo hd hc H (fun _ b t => b = t) Q (M.bnd (evE g.call x ρ) tru s)
def tAs (g : Sg) (Eo : XK) (K : PySem.W.Frag) (al : Bool) (xs : List Ex) : TA := fun σ H Q => ∃ F Z0 hd hc ρ s, Rel K F Z0 hd hc g.ms ρ s σ H ∧
  Post g.XR Eo hd hc H (fun H' vs ys => RepSs K H' (Zal al Z0 hd g.ms ρ σ) hd vs ys) Q (evEs g.call xs ρ s)
def tDs (g : Sg) (Eo : XK) (K : PySem.W.Frag) (al : Bool) (xs : List Ex) : TA := fun σ H Q => ∃ F Z0 hd hc ρ s, Rel K F Z0 hd hc g.ms ρ s σ H ∧
  Post g.XR Eo hd hc H (fun H' vs ys => Reps K H' (Zal al Z0 hd g.ms ρ σ) vs ys) Q (evDs g.call xs ρ s)
def tOi (g : Sg) (Eo : XK) (K : PySem.W.Frag) (x : Option Ex) : TO := fun σ H Q => ∃ F Z0 hd hc ρ s, Rel K F Z0 hd hc g.ms ρ s σ H ∧
  Post g.XR Eo hd hc H (fun _ b t => b = t) Q (evO g.call x ρ s)
abbrev JE (g : Sg) (Eo : XK) (X : Cx) (al : Bool) (e : Expr) (x : Ex) : Prop := PE X e (tE g Eo X.K al x)
abbrev JT (g : Sg) (Eo : XK) (X : Cx) (e : Expr) (x : Ex) : Prop := PT X e (tT g Eo X.K x)
abbrev JW (g : Sg) (Eo : XK) (X : Cx) (e : Expr) (x : Ex) : Prop := PW X e (tT g Eo X.K x)
abbrev JA (g : Sg) (Eo : XK) (X : Cx) (al : Bool) (es : List Expr) (xs : List Ex) : Prop := PA X es (tAs g Eo X.K al xs)
abbrev JD (g : Sg) (Eo : XK) (X : Cx) (al : Bool) (es : List Expr) (xs : List Ex) : Prop := PA X es (tDs g Eo X.K al xs)
abbrev JO (g : Sg) (Eo : XK) (X : Cx) (e : Option Expr) (x : Option Ex) : Prop := PO X e (tOi g Eo X.K x)
theorem pe_imp {X : Cx} {e : Expr} {t t' : TE} (h : PE X e t) (k : ∀ σ H Q, t' σ H Q → t σ H Q) : PE X e t' := ⟨fun pins s σ H Q I q => h.run pins s σ H Q I (k σ H Q q)⟩
theorem pt_imp {X : Cx} {e : Expr} {t t' : TT} (h : PT X e t) (k : ∀ σ H Q, t' σ H Q → t σ H Q) : PT X e t' := ⟨fun pins s σ H Q I q => h.run pins s σ H Q I (k σ H Q q)⟩
theorem pw_imp {X : Cx} {e : Expr} {t t' : TT} (h : PW X e t) (k : ∀ σ H Q, t' σ H Q → t σ H Q) : PW X e t' := ⟨fun w pins s σ H Q I q => h.run w pins s σ H Q I (k σ H Q q)⟩
theorem pa_imp {X : Cx} {e : List Expr} {t t' : TA} (h : PA X e t) (k : ∀ σ H Q, t' σ H Q → t σ H Q) : PA X e t' := ⟨fun pos pins s σ H Q I q => h.run pos pins s σ H Q I (k σ H Q q)⟩

section
variable {XR : XRep} {Eo : XK} {hd hc : Addr} {H : Hp} {K : PySem.W.Frag} {Z : Addr → Prop}
/-- data first, then on -/
theorem Post.bndD {γ δ : Type} {m : M SV} {k : PyData → M γ} {s : Hand} {Rq : Hp → δ → γ → Prop} {Q : δ → Hp → Prop} {Q' : V → Hp → Prop} (h : Post XR Eo hd hc H Rq Q (M.bnd (toD m) k s))
    (hk : ∀ d s1 v H1, m s = .ok (.d d) s1 → Ext hd H H1 → HandAt H1 hd hc s1 → Rep K H1 Z v d → Post XR Eo hd hc H1 Rq Q (k d s1) → Q' v H1) : Post XR Eo hd hc H (fun H' v y => RepS K H' Z hd v y) Q' (m s) := by
  unfold toD at h
  rw [bnd_assoc] at h
  refine h.bnd fun a s1 v H1 e e1 h1 r hp => ?_
  cases a with
  | d p => exact hk p s1 v H1 e e1 h1 r hp
  | hand => exact hp.elim
theorem Post.retD {o : Option PyData} {s : Hand} {γ : Type} {Rq : Hp → γ → SV → Prop} {Q : γ → Hp → Prop} (h : Post XR Eo hd hc H Rq Q (retD o s)) : ∃ d, o = some d ∧ Post XR Eo hd hc H Rq Q (M.ret (.d d) s) := by
  cases o with
  | none => exact h.elim
  | some d => exact ⟨d, rfl, h⟩
theorem Post.retB {o : Option Bool} {s : Hand} {γ : Type} {Rq : Hp → γ → SV → Prop} {Q : γ → Hp → Prop} (h : Post XR Eo hd hc H Rq Q (retB o s)) : ∃ d, o = some d ∧ Post XR Eo hd hc H Rq Q (M.ret (SV.d (.bool d)) s) := by
  cases o with
  | none => exact h.elim
  | some d => exact ⟨d, rfl, h⟩
theorem Post.lift {α γ δ : Type} {o : Option α} {k : α → M γ} {s : Hand} {Rq : Hp → δ → γ → Prop} {Q : δ → Hp → Prop} (h : Post XR Eo hd hc H Rq Q (M.bnd (lift o) k s)) : ∃ a, o = some a ∧ Post XR Eo hd hc H Rq Q (k a s) := by
  cases o with
  | none => exact h.elim
  | some d => exact ⟨d, rfl, h⟩
theorem Post.tru {γ δ : Type} {x : SV} {k : Bool → M γ} {s : Hand} {Rq : Hp → δ → γ → Prop} {Q : δ → Hp → Prop} (h : Post XR Eo hd hc H Rq Q (M.bnd (tru x) k s)) : ∃ p t, x = .d p ∧ truthy p = some t ∧ Post XR Eo hd hc H Rq Q (k t s) := by
  cases x with
  | d p =>
    obtain ⟨t, h1, h2⟩ := Post.lift (o := truthy p) h
    exact ⟨p, t, rfl, h1, h2⟩
  | hand => exact h.elim
theorem Post.tru0 {x : SV} {s : Hand} {Q : Bool → Hp → Prop} (h : Post XR Eo hd hc H (fun _ b t => b = t) Q (Wv.tru x s)) (hh : HandAt H hd hc s) : ∃ p t, x = .d p ∧ truthy p = some t ∧ Q t H := by
  cases x with
  | d p =>
    cases e : truthy p with
    | none =>
      have h : Post XR Eo hd hc H (fun _ b t => b = t) Q (Wv.lift (truthy p) s) := h
      rw [e] at h
      exact h.elim
    | some t =>
      have h : Post XR Eo hd hc H (fun _ b t => b = t) Q (Wv.lift (truthy p) s) := h
      rw [e] at h
      exact ⟨p, t, rfl, e, h t H (Ext.refl _ _) hh rfl⟩
  | hand => exact h.elim
theorem truV_of {v : V} {d : PyData} {t : Bool} (r : Rep K H Z v d) (h : truthy d = some t) : TruV K v H t := by
  cases d with
  | none => cases r; cases h; exact rfl
  | bool b => cases r; cases h; exact rfl
  | int i => cases r; cases h; exact rfl
  | str x =>
    cases r
    simp only [truthy] at h
    split at h
    · rename_i hz
      cases h
      refine ⟨hz, ?_⟩
      rw [bne, bne, Bool.beq_eq_decide_eq, Bool.beq_eq_decide_eq]
      congr 1
      exact decide_eq_decide.mpr (by omega)
    · cases h
  | list ds =>
    obtain ⟨a, xs, rfl, hh, _, _, rs⟩ := r.list
    cases h
    refine .inl ⟨xs, SqL.of hh, ?_⟩
    cases rs <;> rfl
  | tuple ds =>
    obtain ⟨a, xs, rfl, hh, _, rs⟩ := r.tuple
    cases h
    refine .inr (.inl ⟨xs, hh, ?_⟩)
    cases rs <;> rfl
  | dict _ => cases r
end

section
variable {g : Sg} {Eo : XK} {X : Cx} {al : Bool} {a b c : Expr} {xa xb xc : Ex} {pos : Pos}
theorem je_up {e : Expr} {x : Ex} (h : JE g Eo X false e x) : JE g Eo X al e x := by
  refine pe_imp h fun σ H Q ⟨F, Z0, hd, hc, ρ, s, R, hp⟩ => ⟨F, Z0, hd, hc, ρ, s, R, ?_⟩
  exact hp.imp (fun v H' y _ r => r.less fun a z => Zal.le z) fun _ _ q => q
theorem je_v {i : Nat} {x : Str} (hN : X.N[i]? = some x) (hv : Vis X.env.scope x) (hdb : (x == ("__debug__" : Str)) = false) (hcd : (x == ("__classdict__" : Str)) = false) (ha : al = false → i ∉ g.ms) : JE g Eo X al (.Name x pos) (.v i) := by
  refine pe_imp (pe_var hN hv hdb hcd) fun σ H Q ⟨F, Z0, hd, hc, ρ, s, R, hp⟩ => ?_
  have hp : Post g.XR Eo hd hc H (fun H' v y => RepS X.K H' (Zal al Z0 hd g.ms ρ σ) hd v y) Q ((match ρ[i]? with | some (some x) => M.ret x | _ => bad : M SV) s) := hp
  cases e : ρ[i]? with
  | none => rw [e] at hp; exact hp.elim
  | some o =>
    cases o with
    | none => rw [e] at hp; exact hp.elim
    | some y =>
      rw [e] at hp
      by_cases hi : i ∈ g.ms
      · obtain ⟨v, hv, ⟨l, xs, ds, rfl, rfl, h1, h2, h3, h4, h5, h6, h7⟩⟩ := R.own i y hi e
        cases al with
        | false => exact absurd hi (ha rfl)
        | true =>
          refine ⟨_, hv, hp _ H (Ext.refl _ _) R.hand ?_⟩
          exact Rep.lst h1 (fun z => z.elim h5 h6) h2 (h3.less fun a z => Zb.le z)
      · obtain ⟨v, hv, r⟩ := R.sh i y hi e
        exact ⟨v, hv, hp v H (Ext.refl _ _) R.hand (r.less fun a z => Zal.le z)⟩
theorem je_const {v : V} {d : PyData} {e : Expr} {x : Ex} (h : PE X e (tC v)) (hx : ∀ ρ, evE g.call x ρ = M.ret (.d d)) (r : ∀ H Z, Rep X.K H Z v d) : JE g Eo X al e x := by
  refine pe_imp h fun σ H Q ⟨F, Z0, hd, hc, ρ, s, R, hp⟩ => ?_
  rw [hx] at hp
  exact hp v H (Ext.refl _ _) R.hand (r _ _)
theorem je_one {op : BoolOp} {x : Ex} (h : JE g Eo X al a x) : JE g Eo X al (.BoolOp op [a] pos) x := pe_one h
theorem Keeps.ext {hd : Addr} {H H' : Hp} (k : Keeps H H') : Ext hd H H' := fun b o h _ => k b o h
theorem HandAt.keeps {H H' : Hp} {hd hc : Addr} {s : Hand} (h : HandAt H hd hc s) (k : Keeps H H') : HandAt H' hd hc s := h.keep k
theorem je_bin {op : Operator} {o : Bop} (ho : OpR X (binaryOp op) (rD2 X.K (binop o))) (ha : JE g Eo X al a xa) (hb : JE g Eo X al b xb) : JE g Eo X al (.BinOp a op b pos) (.bin o xa xb) := by
  refine pe_imp (pe_op ho ha hb) fun σ H Q ⟨F, Z0, hd, hc, ρ, s, R, hp⟩ => ⟨F, Z0, hd, hc, ρ, s, R, Post.bndD (k := fun x => M.bnd (toD (evE g.call xb ρ)) fun y => retD (binop o x y)) hp fun d s1 v H1 _ e1 h1 r1 hp1 => ?_⟩
  refine ⟨F, Z0, hd, hc, ρ, s1, R.step e1 h1, Post.bndD hp1 fun d2 s2 w H2 _ e2 h2 r2 hp2 => ?_⟩
  obtain ⟨r, hr, hp3⟩ := hp2.retD
  refine ⟨Zal al Z0 hd g.ms ρ σ, d, d2, r, r1.mono e2 (Zal.has al), r2, hr, fun a z => ((R.step e1 h1).step e2 h2).trf a z.le, fun u H3 k r3 => ?_⟩
  exact hp3 u H3 k.ext (h2.keeps k) r3
theorem je_cmp {op : CmpOp} {o : Cop} (ho : OpR X (compareOp op) (rC2 X.K (cmpop o))) (hm : behindInMarks op b = false) (ha : JE g Eo X true a xa) (hb : JE g Eo X true b xb) : JE g Eo X al (.Compare a [op] [b] pos) (.cmp o xa xb) := by
  refine pe_imp (pe_cmpR ho ha hb hm) fun σ H Q ⟨F, Z0, hd, hc, ρ, s, R, hp⟩ => ⟨F, Z0, hd, hc, ρ, s, R, Post.bndD (k := fun x => M.bnd (toD (evE g.call xb ρ)) fun y => retB (cmpop o x y)) hp fun d s1 v H1 _ e1 h1 r1 hp1 => ?_⟩
  refine ⟨F, Z0, hd, hc, ρ, s1, R.step e1 h1, Post.bndD hp1 fun d2 s2 w H2 _ e2 h2 r2 hp2 => ?_⟩
  obtain ⟨r, hr, hp3⟩ := hp2.retB
  exact ⟨Zal true Z0 hd g.ms ρ σ, d, d2, r, r1.mono e2 (Zal.has true), r2, hr, hp3 _ H2 (Ext.refl _ _) h2 (.bl r)⟩
theorem jt_cmp {op : CmpOp} {o : Cop} (ho : OpR X (compareOp op) (rC2 X.K (cmpop o))) (hm : behindInMarks op b = false) (ha : JE g Eo X true a xa) (hb : JE g Eo X true b xb) : JT g Eo X (.Compare a [op] [b] pos) (.cmp o xa xb) := by
  refine pt_imp (pt_cmpR ho ha hb hm) fun σ H Q ⟨F, Z0, hd, hc, ρ, s, R, hp⟩ => ?_
  have hp : Post g.XR Eo hd hc H (fun _ b t => b = t) Q (M.bnd (toD (evE g.call xa ρ)) (fun x => M.bnd (toD (evE g.call xb ρ)) fun y => M.bnd (retB (cmpop o x y)) tru) s) := by
    have e : M.bnd (evE g.call (.cmp o xa xb) ρ) tru = M.bnd (toD (evE g.call xa ρ)) (fun x => M.bnd (toD (evE g.call xb ρ)) fun y => M.bnd (retB (cmpop o x y)) tru) := by
      show M.bnd (M.bnd (toD (evE g.call xa ρ)) fun x => M.bnd (toD (evE g.call xb ρ)) fun y => retB (cmpop o x y)) tru = _
      rw [bnd_assoc]
      congr 1
      funext x
      rw [bnd_assoc]
    rw [e] at hp
    exact hp
  refine ⟨F, Z0, hd, hc, ρ, s, R, Post.bndD hp fun d s1 v H1 _ e1 h1 r1 hp1 => ?_⟩
  refine ⟨F, Z0, hd, hc, ρ, s1, R.step e1 h1, Post.bndD hp1 fun d2 s2 w H2 _ e2 h2 r2 hp2 => ?_⟩
  cases hr : cmpop o d d2 with
  | none => rw [hr] at hp2; exact hp2.elim
  | some r =>
    rw [hr] at hp2
    have hp2 : Post g.XR Eo hd hc H2 (fun _ b t => b = t) Q (tru (.d (.bool r)) s2) := hp2
    exact ⟨Zal true Z0 hd g.ms ρ σ, d, d2, r, r1.mono e2 (Zal.has true), r2, hr, r, rfl, hp2 r H2 (Ext.refl _ _) h2 rfl⟩
theorem je_chain {op op' : CmpOp} {o p : Cop} (ho : OpR X (compareOp op) (rC2 X.K (cmpop o))) (ho' : OpR X (compareOp op') (rC2 X.K (cmpop p))) (hm : lastMarks [op, op'] [b, c] = false) (ha : JE g Eo X true a xa) (hb : JE g Eo X true b xb) (hcc : JE g Eo X true c xc) :
    JE g Eo X al (.Compare a [op, op'] [b, c] pos) (.chain o p xa xb xc) := by
  refine pe_imp (pe_chain ho ho' ha hb hcc hm) fun σ H Q ⟨F, Z0, hd, hc, ρ, s, R, hp⟩ => ⟨F, Z0, hd, hc, ρ, s, R, Post.bndD (k := fun x => M.bnd (toD (evE g.call xb ρ)) fun y => M.bnd (lift (cmpop o x y)) fun t =>
      if t then M.bnd (toD (evE g.call xc ρ)) fun z => retB (cmpop p y z) else M.ret (SV.d (.bool false))) hp fun d s1 v H1 _ e1 h1 r1 hp1 => ?_⟩
  refine ⟨F, Z0, hd, hc, ρ, s1, R.step e1 h1, Post.bndD hp1 fun d2 s2 w H2 _ e2 h2 r2 hp2 => ?_⟩
  obtain ⟨t, ht, hp3⟩ := hp2.lift
  refine ⟨Zal true Z0 hd g.ms ρ σ, d, d2, t, r1.mono e2 (Zal.has true), r2, ht, t, rfl, ?_⟩
  cases t with
  | false =>
    rw [if_neg Bool.false_ne_true]
    exact hp3 _ H2 (Ext.refl _ _) h2 (.bl false)
  | true =>
    rw [if_pos rfl]
    refine ⟨F, Z0, hd, hc, ρ, s2, (R.step e1 h1).step e2 h2, Post.bndD hp3 fun d3 s3 z H3 _ e3 h3 r3 hp4 => ?_⟩
    obtain ⟨r, hr, hp5⟩ := hp4.retB
    exact ⟨Zal true Z0 hd g.ms ρ σ, d2, d3, r, r2.mono e3 (Zal.has true), r3, hr, hp5 _ H3 (Ext.refl _ _) h3 (.bl r)⟩
theorem jt_chain {op op' : CmpOp} {o p : Cop} (ho : OpR X (compareOp op) (rC2 X.K (cmpop o))) (ho' : OpR X (compareOp op') (rC2 X.K (cmpop p))) (hm : lastMarks [op, op'] [b, c] = false) (ha : JE g Eo X true a xa) (hb : JE g Eo X true b xb) (hcc : JE g Eo X true c xc) :
    JT g Eo X (.Compare a [op, op'] [b, c] pos) (.chain o p xa xb xc) := by
  refine pt_imp (pt_chain ho ho' ha hb hcc hm) fun σ H Q ⟨F, Z0, hd, hc, ρ, s, R, hp⟩ => ?_
  have hp : Post g.XR Eo hd hc H (fun _ b t => b = t) Q (M.bnd (toD (evE g.call xa ρ)) (fun x => M.bnd (toD (evE g.call xb ρ)) fun y => M.bnd (lift (cmpop o x y)) fun t => M.bnd (if t then M.bnd (toD (evE g.call xc ρ)) fun z => retB (cmpop p y z) else M.ret (SV.d (.bool false))) tru) s) := by
    have e : M.bnd (evE g.call (.chain o p xa xb xc) ρ) tru = M.bnd (toD (evE g.call xa ρ)) (fun x => M.bnd (toD (evE g.call xb ρ)) fun y => M.bnd (lift (cmpop o x y)) fun t => M.bnd (if t then M.bnd (toD (evE g.call xc ρ)) fun z => retB (cmpop p y z) else M.ret (SV.d (.bool false))) tru) := by
      show M.bnd (M.bnd (toD (evE g.call xa ρ)) fun x => M.bnd (toD (evE g.call xb ρ)) fun y => M.bnd (lift (cmpop o x y)) fun t => if t then M.bnd (toD (evE g.call xc ρ)) fun z => retB (cmpop p y z) else M.ret (SV.d (.bool false))) tru = _
      rw [bnd_assoc]
      congr 1
      funext x
      rw [bnd_assoc]
      congr 1
      funext y
      rw [bnd_assoc]
    rw [e] at hp
    exact hp
  refine ⟨F, Z0, hd, hc, ρ, s, R, Post.bndD hp fun d s1 v H1 _ e1 h1 r1 hp1 => ?_⟩
  refine ⟨F, Z0, hd, hc, ρ, s1, R.step e1 h1, Post.bndD hp1 fun d2 s2 w H2 _ e2 h2 r2 hp2 => ?_⟩
  obtain ⟨t, ht, hp3⟩ := hp2.lift
  refine ⟨Zal true Z0 hd g.ms ρ σ, d, d2, t, r1.mono e2 (Zal.has true), r2, ht, t, rfl, ?_⟩
  cases t with
  | false =>
    rw [if_neg Bool.false_ne_true]
    exact ⟨false, rfl, hp3 false H2 (Ext.refl _ _) h2 rfl⟩
  | true =>
    rw [if_pos rfl]
    simp only [if_true] at hp3
    rw [bnd_assoc] at hp3
    refine ⟨F, Z0, hd, hc, ρ, s2, (R.step e1 h1).step e2 h2, Post.bndD hp3 fun d3 s3 z H3 _ e3 h3 r3 hp4 => ?_⟩
    cases hr : cmpop p d2 d3 with
    | none => rw [hr] at hp4; exact hp4.elim
    | some r =>
      rw [hr] at hp4
      have hp4 : Post g.XR Eo hd hc H3 (fun _ b t => b = t) Q (tru (.d (.bool r)) s3) := hp4
      exact ⟨Zal true Z0 hd g.ms ρ σ, d2, d3, r, r2.mono e3 (Zal.has true), r3, hr, r, rfl, hp4 r H3 (Ext.refl _ _) h3 rfl⟩
/-- a test that is the value's truth -/
theorem jt_of {x : Ex} (h : JE g Eo X true a x) (he : ∀ whole, isTrue a X.env whole = (do let v ← whole; standAt a.pos; holding [v] (PySem.truthy v))) : JT g Eo X a x := by
  refine pt_imp (pt_truth h he) fun σ H Q ⟨F, Z0, hd, hc, ρ, s, R, hp⟩ => ⟨F, Z0, hd, hc, ρ, s, R, ?_⟩
  refine Post.bnd hp fun y s1 v H1 _ e1 h1 r1 hp1 => ?_
  obtain ⟨p, t, rfl, ht, q⟩ := hp1.tru0 h1
  exact ⟨t, truV_of r1 ht, q⟩
theorem je_and {rest : List Expr} (ha : JE g Eo X al a xa) (hb : JE g Eo X al (.BoolOp .And (b :: rest) pos) xb) : JE g Eo X al (.BoolOp .And (a :: b :: rest) pos) (.and xa xb) := by
  refine pe_imp (pe_andT ha hb) fun σ H Q ⟨F, Z0, hd, hc, ρ, s, R, hp⟩ => ⟨F, Z0, hd, hc, ρ, s, R, Post.bnd (k := fun x => M.bnd (tru x) fun t => if t then evE g.call xb ρ else M.ret x) hp fun y s1 v H1 _ e1 h1 r1 hp1 => ?_⟩
  obtain ⟨p, t, rfl, ht, hp2⟩ := hp1.tru
  refine ⟨t, truV_of r1 ht, ?_⟩
  cases t with
  | false =>
    rw [if_neg Bool.false_ne_true]
    exact hp2 v H1 (Ext.refl _ _) h1 r1
  | true =>
    rw [if_pos rfl]
    exact ⟨F, Z0, hd, hc, ρ, s1, R.step e1 h1, hp2⟩
theorem je_or {rest : List Expr} (ha : JE g Eo X al a xa) (hb : JE g Eo X al (.BoolOp .Or (b :: rest) pos) xb) : JE g Eo X al (.BoolOp .Or (a :: b :: rest) pos) (.or xa xb) := by
  refine pe_imp (pe_orT ha hb) fun σ H Q ⟨F, Z0, hd, hc, ρ, s, R, hp⟩ => ⟨F, Z0, hd, hc, ρ, s, R, Post.bnd (k := fun x => M.bnd (tru x) fun t => if t then M.ret x else evE g.call xb ρ) hp fun y s1 v H1 _ e1 h1 r1 hp1 => ?_⟩
  obtain ⟨p, t, rfl, ht, hp2⟩ := hp1.tru
  refine ⟨t, truV_of r1 ht, ?_⟩
  cases t with
  | false =>
    rw [if_neg Bool.false_ne_true]
    exact ⟨F, Z0, hd, hc, ρ, s1, R.step e1 h1, hp2⟩
  | true =>
    rw [if_pos rfl]
    exact hp2 v H1 (Ext.refl _ _) h1 r1
theorem je_not (ha : JE g Eo X true a xa) : JE g Eo X al (.UnaryOp .Not a pos) (.not xa) := by
  refine pe_imp (pe_notT ha) fun σ H Q ⟨F, Z0, hd, hc, ρ, s, R, hp⟩ => ⟨F, Z0, hd, hc, ρ, s, R, Post.bnd (k := fun x => M.bnd (tru x) fun t => M.ret (SV.d (.bool (!t)))) hp fun y s1 v H1 _ e1 h1 r1 hp1 => ?_⟩
  obtain ⟨p, t, rfl, ht, hp2⟩ := hp1.tru
  exact ⟨t, truV_of r1 ht, hp2 _ H1 (Ext.refl _ _) h1 (.bl _)⟩
theorem jt_not (ha : JT g Eo X a xa) : JT g Eo X (.UnaryOp .Not a pos) (.not xa) := by
  refine pt_imp (pt_not ha) fun σ H Q ⟨F, Z0, hd, hc, ρ, s, R, hp⟩ => ⟨F, Z0, hd, hc, ρ, s, R, ?_⟩
  have e : M.bnd (evE g.call (.not xa) ρ) tru = M.bnd (M.bnd (evE g.call xa ρ) tru) fun t => M.bnd (M.ret (SV.d (.bool (!t)))) tru := by
    show M.bnd (M.bnd (evE g.call xa ρ) fun x => M.bnd (tru x) fun t => M.ret (SV.d (.bool (!t)))) tru = _
    rw [bnd_assoc, bnd_assoc]
    congr 1
    funext x
    rw [bnd_assoc]
  rw [e] at hp
  refine Post.bnd hp fun t s1 b H1 _ e1 h1 r1 hp1 => ?_
  subst r1
  exact hp1 (!b) H1 (Ext.refl _ _) h1 rfl
theorem jw_one {op : BoolOp} {x : Ex} (h : JT g Eo X a x) : JW g Eo X (.BoolOp op [a] pos) x := by
  cases op with
  | And => exact pw_and1 h
  | Or => exact pw_or1 h
/-- the truth behind a first part -/
theorem tru_ok {p : PyData} {t : Bool} {s : Hand} (h : truthy p = some t) : tru (.d p) s = .ok t s := by
  show lift (truthy p) s = _
  rw [h]
  rfl
theorem and_tru (x : SV) (m : M SV) : M.bnd (M.bnd (tru x) fun t => if t then m else M.ret x) tru = M.bnd (tru x) fun t => if t then M.bnd m tru else M.ret false := by
  funext s
  cases x with
  | hand => rfl
  | d p =>
    cases ht : truthy p with
    | none =>
      have h1 : tru (.d p) s = R.bad := by show lift (truthy p) s = _; rw [ht]; rfl
      unfold M.bnd
      simp only [h1]
    | some t =>
      have h1 := tru_ok (s := s) ht
      cases t with
      | true =>
        show M.bnd (M.bnd (tru (.d p)) _) tru s = M.bnd (tru (.d p)) _ s
        rw [bnd_ok h1]
        have : M.bnd (tru (.d p)) (fun t => if t = true then m else M.ret (SV.d p)) s = m s := by rw [bnd_ok h1]; rfl
        unfold M.bnd at this ⊢
        rw [this]
        rfl
      | false =>
        rw [bnd_ok h1]
        have : M.bnd (tru (.d p)) (fun t => if t = true then m else M.ret (SV.d p)) s = R.ok (SV.d p) s := by rw [bnd_ok h1]; rfl
        rw [bnd_ok this]
        exact h1
theorem or_tru (x : SV) (m : M SV) : M.bnd (M.bnd (tru x) fun t => if t then M.ret x else m) tru = M.bnd (tru x) fun t => if t then M.ret true else M.bnd m tru := by
  funext s
  cases x with
  | hand => rfl
  | d p =>
    cases ht : truthy p with
    | none =>
      have h1 : tru (.d p) s = R.bad := by show lift (truthy p) s = _; rw [ht]; rfl
      unfold M.bnd
      simp only [h1]
    | some t =>
      have h1 := tru_ok (s := s) ht
      cases t with
      | false =>
        rw [bnd_ok h1]
        have : M.bnd (tru (.d p)) (fun t => if t = true then M.ret (SV.d p) else m) s = m s := by rw [bnd_ok h1]; rfl
        unfold M.bnd at this ⊢
        rw [this]
        rfl
      | true =>
        rw [bnd_ok h1]
        have : M.bnd (tru (.d p)) (fun t => if t = true then M.ret (SV.d p) else m) s = R.ok (SV.d p) s := by rw [bnd_ok h1]; rfl
        rw [bnd_ok this]
        exact h1
theorem jw_and {rest : List Expr} (ha : JT g Eo X a xa) (hb : JW g Eo X (.BoolOp .And (b :: rest) pos) xb) : JW g Eo X (.BoolOp .And (a :: b :: rest) pos) (.and xa xb) := by
  refine pw_imp (pw_and ha hb) fun σ H Q ⟨F, Z0, hd, hc, ρ, s, R, hp⟩ => ⟨F, Z0, hd, hc, ρ, s, R, ?_⟩
  have e : M.bnd (evE g.call (.and xa xb) ρ) tru = M.bnd (M.bnd (evE g.call xa ρ) tru) fun t => if t then M.bnd (evE g.call xb ρ) tru else M.ret false := by
    show M.bnd (M.bnd (evE g.call xa ρ) fun x => M.bnd (tru x) fun t => if t then evE g.call xb ρ else M.ret x) tru = _
    rw [bnd_assoc, bnd_assoc]
    congr 1
    funext x
    exact and_tru x _
  rw [e] at hp
  refine Post.bnd hp fun t s1 c H1 _ e1 h1 r1 hp1 => ?_
  subst r1
  cases c with
  | true =>
    rw [if_pos rfl]
    exact ⟨F, Z0, hd, hc, ρ, s1, R.step e1 h1, hp1⟩
  | false =>
    rw [if_neg Bool.false_ne_true]
    exact hp1 false H1 (Ext.refl _ _) h1 rfl
theorem jw_or {rest : List Expr} (ha : JT g Eo X a xa) (hb : JW g Eo X (.BoolOp .Or (b :: rest) pos) xb) : JW g Eo X (.BoolOp .Or (a :: b :: rest) pos) (.or xa xb) := by
  refine pw_imp (pw_or ha hb) fun σ H Q ⟨F, Z0, hd, hc, ρ, s, R, hp⟩ => ⟨F, Z0, hd, hc, ρ, s, R, ?_⟩
  have e : M.bnd (evE g.call (.or xa xb) ρ) tru = M.bnd (M.bnd (evE g.call xa ρ) tru) fun t => if t then M.ret true else M.bnd (evE g.call xb ρ) tru := by
    show M.bnd (M.bnd (evE g.call xa ρ) fun x => M.bnd (tru x) fun t => if t then M.ret x else evE g.call xb ρ) tru = _
    rw [bnd_assoc, bnd_assoc]
    congr 1
    funext x
    exact or_tru x _
  rw [e] at hp
  refine Post.bnd hp fun t s1 c H1 _ e1 h1 r1 hp1 => ?_
  subst r1
  cases c with
  | true =>
    rw [if_pos rfl]
    exact hp1 true H1 (Ext.refl _ _) h1 rfl
  | false =>
    rw [if_neg Bool.false_ne_true]
    exact ⟨F, Z0, hd, hc, ρ, s1, R.step e1 h1, hp1⟩
theorem je_ite (hcc : JT g Eo X c xc) (ha : JE g Eo X al a xa) (hb : JE g Eo X al b xb) : JE g Eo X al (.IfExp c a b pos) (.ite xc xa xb) := by
  refine pe_imp (pe_ifExp hcc ha hb) fun σ H Q ⟨F, Z0, hd, hc, ρ, s, R, hp⟩ => ⟨F, Z0, hd, hc, ρ, s, R, ?_⟩
  have hp : Post g.XR Eo hd hc H (fun H' v y => RepS X.K H' (Zal al Z0 hd g.ms ρ σ) hd v y) Q (M.bnd (M.bnd (evE g.call xc ρ) tru) (fun t => if t then evE g.call xa ρ else evE g.call xb ρ) s) := by
    rw [bnd_assoc]
    exact hp
  refine Post.bnd hp fun t s1 k H1 _ e1 h1 r1 hp1 => ?_
  subst r1
  cases k with
  | true =>
    rw [if_pos rfl]
    exact ⟨F, Z0, hd, hc, ρ, s1, R.step e1 h1, hp1⟩
  | false =>
    rw [if_neg Bool.false_ne_true]
    exact ⟨F, Z0, hd, hc, ρ, s1, R.step e1 h1, hp1⟩
/-! argument lists -/
def isStar : Expr → Bool
  | .Starred .. => true
  | _ => false
theorem star_eq {e : Expr} (h : isStar e = false) (es : List Expr) (env : PySem.Env) : starEach (e :: es) env = (false, eval e env) :: starEach es env := by
  cases e <;> first | rfl | (simp [isStar] at h)
theorem star_none : ∀ {es : List Expr}, (∀ e ∈ es, isStar e = false) → ∀ (pos : Pos) (env : PySem.Env), (backTo pos (starEach es env)).any (·.1) = false
  | [], _, _, _ => rfl
  | e :: es, h, pos, env => by
    rw [star_eq (h e List.mem_cons_self)]
    have := star_none (es := es) (fun x hx => h x (List.mem_cons_of_mem _ hx)) pos env
    simp only [backTo, List.map_cons, List.any_cons, Bool.false_or] at this ⊢
    exact this
theorem ja_nil : JA g Eo X al [] [] := pa_imp pa_nil fun σ H Q ⟨F, Z0, hd, hc, ρ, s, R, hp⟩ => hp [] H (Ext.refl _ _) R.hand .nil
theorem ja_cons {es : List Expr} {xs : List Ex} (hs : isStar a = false) (ha : JE g Eo X al a xa) (hr : JA g Eo X al es xs) : JA g Eo X al (a :: es) (xa :: xs) := by
  refine pa_imp (pa_cons ha hr (star_eq hs es X.env)) fun σ H Q ⟨F, Z0, hd, hc, ρ, s, R, hp⟩ => ⟨F, Z0, hd, hc, ρ, s, R, Post.bnd (k := fun x => M.bnd (evEs g.call xs ρ) fun ys => M.ret (x :: ys)) hp fun y s1 v H1 _ e1 h1 r1 hp1 => ?_⟩
  refine ⟨F, Z0, hd, hc, ρ, s1, R.step e1 h1, Post.bnd hp1 fun ys s2 vs H2 _ e2 h2 r2 hp2 => ?_⟩
  exact hp2 (v :: vs) H2 (Ext.refl _ _) h2 (.cons (r1.mono e2 (Zal.has al)) r2)
theorem jd_nil : JD g Eo X al [] [] := pa_imp pa_nil fun σ H Q ⟨F, Z0, hd, hc, ρ, s, R, hp⟩ => hp [] H (Ext.refl _ _) R.hand .nil
theorem jd_cons {es : List Expr} {xs : List Ex} (hs : isStar a = false) (ha : JE g Eo X al a xa) (hr : JD g Eo X al es xs) : JD g Eo X al (a :: es) (xa :: xs) := by
  refine pa_imp (pa_cons ha hr (star_eq hs es X.env)) fun σ H Q ⟨F, Z0, hd, hc, ρ, s, R, hp⟩ => ⟨F, Z0, hd, hc, ρ, s, R, Post.bndD (k := fun x => M.bnd (evDs g.call xs ρ) fun ys => M.ret (x :: ys)) hp fun d s1 v H1 _ e1 h1 r1 hp1 => ?_⟩
  refine ⟨F, Z0, hd, hc, ρ, s1, R.step e1 h1, Post.bnd hp1 fun ys s2 vs H2 _ e2 h2 r2 hp2 => ?_⟩
  exact hp2 (v :: vs) H2 (Ext.refl _ _) h2 (.cons (r1.mono e2 (Zal.has al)) r2)
theorem evDs_len {call : Nat → List SV → M SV} {ρ : Env} : ∀ {xs : List Ex} {s s' : Hand} {ds : List PyData}, evDs call xs ρ s = .ok ds s' → ds.length = xs.length
  | [], s, s', ds, h => by
    have h : M.ret [] s = .ok ds s' := h
    cases h
    rfl
  | x :: xs, s, s', ds, h => by
    have h : M.bnd (toD (evE call x ρ)) (fun y => M.bnd (evDs call xs ρ) fun ys => M.ret (y :: ys)) s = .ok ds s' := h
    unfold M.bnd at h
    cases e1 : toD (evE call x ρ) s with
    | ok y s1 =>
      rw [e1] at h
      simp only at h
      cases e2 : evDs call xs ρ s1 with
      | ok ys s2 =>
        rw [e2] at h
        cases h
        simp [evDs_len e2]
      | ex c as s2 => rw [e2] at h; cases h
      | bad => rw [e2] at h; cases h
    | ex c as s1 => rw [e1] at h; cases h
    | bad => rw [e1] at h; cases h
theorem je_tup {es : List Expr} {xs : List Ex} {k : Nat} (hz : xs.length ≤ sizeLine) (h : JD g Eo X al es xs) : JE g Eo X al (.Tuple es k pos) (.tup xs) := by
  refine pe_imp (pe_tup h) fun σ H Q ⟨F, Z0, hd, hc, ρ, s, R, hp⟩ => ⟨F, Z0, hd, hc, ρ, s, R, Post.bnd (k := fun ds => M.ret (SV.d (.tuple ds))) hp fun ds s1 vs H1 ev e1 h1 r1 hp1 => ?_⟩
  have hl : vs.length ≤ sizeLine := by rw [r1.length, evDs_len ev]; exact hz
  refine ⟨hl, fun p hp2 => ?_⟩
  exact hp1 _ _ (Ext.upd hp2) (h1.upd hp2) (Rep.newT hp2 (fun a z => (R.step e1 h1).trf a z.le) hl r1)
theorem je_lst {es : List Expr} {xs : List Ex} (hz : xs.length ≤ sizeLine) (h : JD g Eo X al es xs) : JE g Eo X al (.List es pos) (.lst xs) := by
  refine pe_imp (pe_lst h) fun σ H Q ⟨F, Z0, hd, hc, ρ, s, R, hp⟩ => ⟨F, Z0, hd, hc, ρ, s, R, Post.bnd (k := fun ds => M.ret (SV.d (.list ds))) hp fun ds s1 vs H1 ev e1 h1 r1 hp1 => ?_⟩
  have hl : vs.length ≤ sizeLine := by rw [r1.length, evDs_len ev]; exact hz
  refine ⟨hl, fun p hp2 => ?_⟩
  exact hp1 _ _ (Ext.upd hp2) (h1.upd hp2) (Rep.newL hp2 (fun a z => (R.step e1 h1).trf a z.le) hl r1)
/-! calls -/
/-- a def's promise -/
def spF (K : PySem.W.Frag) (XR : XRep) (call : Nat → List SV → M SV) (i np : Nat) : Sp := fun vs H Q E => vs.length = np ∧ ∃ Z hd hc s xs, (∀ a, Z a → H a ≠ none) ∧ Z hd ∧ ¬ Z hc ∧ HandAt H hd hc s ∧ RepSs K H Z hd vs xs ∧
  Post XR E hd hc H (fun H' v y => RepS K H' Z hd v y) Q (call i xs s)
theorem evEs_len {call : Nat → List SV → M SV} {ρ : Env} : ∀ {xs : List Ex} {s s' : Hand} {ds : List SV}, evEs call xs ρ s = .ok ds s' → ds.length = xs.length
  | [], s, s', ds, h => by
    have h : M.ret [] s = .ok ds s' := h
    cases h
    rfl
  | x :: xs, s, s', ds, h => by
    have h : M.bnd (evE call x ρ) (fun y => M.bnd (evEs call xs ρ) fun ys => M.ret (y :: ys)) s = .ok ds s' := h
    unfold M.bnd at h
    cases e1 : evE call x ρ s with
    | ok y s1 =>
      rw [e1] at h
      simp only at h
      cases e2 : evEs call xs ρ s1 with
      | ok ys s2 =>
        rw [e2] at h
        cases h
        simp [evEs_len e2]
      | ex c as s2 => rw [e2] at h; cases h
      | bad => rw [e2] at h; cases h
    | ex c as s1 => rw [e1] at h; cases h
    | bad => rw [e1] at h; cases h
theorem je_call {es : List Expr} {xs : List Ex} {k i : Nat} {f : Addr} {fd : FuncData} {ps : List Str} {x : Str} {p : Pos} (Fo : FnOk X.prog X.w X.K X.mg X.base (L2.CX X.prog X.w) k f fd ps (spF X.K g.XR g.call i ps.length)) (hr : Room k X.A) (hg : Gl X x) (hm : X.mg x = some (.ref f))
    (hk : PySem.W.keepIn X.K (.ref f) = true) (hb : Binds X.K fd ps []) (hx : Passes (L2.CX X.prog X.w) X Eo) (hl : xs.length = ps.length) (hxe : es.length = xs.length) (hs : ∀ e ∈ es, isStar e = false) (ha : JA g Eo X al es xs) (hdb : (x == ("__debug__" : Str)) = false) :
    JE g Eo X al (.Call (.Name x p) es [] pos) (.call i xs) := by
  have key : ∀ {t : TA}, (∀ σ H Q, tAs g Eo X.K al xs σ H Q → t σ H Q) → ∀ σ H Q, tE g Eo X.K al (.call i xs) σ H Q → tCall (spF X.K g.XR g.call i ps.length) [] Eo t σ H Q := by
    intro t ht σ H Q ⟨F, Z0, hd, hc, ρ, s, R, hp⟩
    refine ht σ H _ ⟨F, Z0, hd, hc, ρ, s, R, Post.bnd (k := fun ys => g.call i ys) hp fun ys s1 vs H1 ev e1 h1 r1 hp1 => ?_⟩
    rw [List.append_nil]
    exact ⟨by rw [r1.length, evEs_len ev, hl], Zal al Z0 hd g.ms ρ σ, hd, hc, s1, ys, fun a z => (R.step e1 h1).trf a z.le, Zal.has al, R.ncal al, h1, r1, hp1⟩
  cases es with
  | nil =>
    cases xs with
    | nil => exact pe_imp (pe_call0 Fo hr hg hm hk hb .nil hx hdb) (key fun σ H Q ⟨F, Z0, hd, hc, ρ, s, R, hp⟩ => hp [] H (Ext.refl _ _) R.hand .nil)
    | cons _ _ => cases hxe
  | cons e es => exact pe_imp (pe_call Fo hr hg hm hk hb .nil hx ha hdb (star_eq (hs e List.mem_cons_self) es X.env) (star_none (fun y hy => hs y (List.mem_cons_of_mem _ hy)) pos X.env)) (key fun _ _ _ q => q)
end
end Wv

set_option Elab.async false
set_option autoImplicit false
set_option linter.all false
set_option maxRecDepth 100000
set_option maxHeartbeats 4000000
namespace Wv
open PySem PySem.Spec PyProof.Rows L2 PySem.W
section
variable {g : Sg} {Eo : XK} {X : Cx} {al : Bool} {a b c : Expr} {xa xb xc : Ex} {pos : Pos}
/-! ### built-in functions and classes, called -/
theorem je_biB {id : String} {bi : Bi} {x : Str} {p : Pos} {es : List Expr} {xs : List Ex} (hcb : CallR X (.builtin id) (rDs X.K (biop bi))) (hg : Gl X x) (hm : X.mg x = none) (hv : bootBuiltins x = some (.builtin id)) (hn : x ≠ "__name__") (hdb : (x == ("__debug__" : Str)) = false)
    (hs : ∀ e ∈ a :: es, isStar e = false) (ha : JD g Eo X al (a :: es) xs) : JE g Eo X al (.Call (.Name x p) (a :: es) [] pos) (.bi bi xs) := by
  refine pe_imp (pe_callB hcb hg hm hv ha hn hdb (star_eq (hs a List.mem_cons_self) es X.env) (star_none (fun y hy => hs y (List.mem_cons_of_mem _ hy)) pos X.env)) fun σ H Q ⟨F, Z0, hd, hc, ρ, s, R, hp⟩ => ⟨F, Z0, hd, hc, ρ, s, R, Post.bnd (k := fun ds => retD (biop bi ds)) hp fun ds s1 vs H1 ev e1 h1 r1 hp1 => ?_⟩
  obtain ⟨d, hd2, hp2⟩ := hp1.retD
  exact ⟨Zal al Z0 hd g.ms ρ σ, ds, d, r1, hd2, fun z hz => (R.step e1 h1).trf z hz.le, fun v H' k r => hp2 v H' k.ext (h1.keeps k) r⟩
theorem je_biT {T : String} {bi : Bi} {x : Str} {p : Pos} {es : List Expr} {xs : List Ex} (hcb : CallR X (.type T) (rDs X.K (biop bi))) (hg : Gl X x) (hm : X.mg x = none) (hv : bootBuiltins x = some (.type T)) (hn : x ≠ "__name__") (hdb : (x == ("__debug__" : Str)) = false)
    (hs : ∀ e ∈ a :: es, isStar e = false) (ha : JD g Eo X al (a :: es) xs) : JE g Eo X al (.Call (.Name x p) (a :: es) [] pos) (.bi bi xs) := by
  refine pe_imp (pe_callTy hcb hg hm hv ha hn hdb (star_eq (hs a List.mem_cons_self) es X.env) (star_none (fun y hy => hs y (List.mem_cons_of_mem _ hy)) pos X.env)) fun σ H Q ⟨F, Z0, hd, hc, ρ, s, R, hp⟩ => ⟨F, Z0, hd, hc, ρ, s, R, Post.bnd (k := fun ds => retD (biop bi ds)) hp fun ds s1 vs H1 ev e1 h1 r1 hp1 => ?_⟩
  obtain ⟨d, hd2, hp2⟩ := hp1.retD
  exact ⟨Zal al Z0 hd g.ms ρ σ, ds, d, r1, hd2, fun z hz => (R.step e1 h1).trf z hz.le, fun v H' k r => hp2 v H' k.ext (h1.keeps k) r⟩
def tyS : Ty → String
  | .int => "int" | .bool => "bool" | .str => "str" | .tuple => "tuple" | .list => "list" | .dict => "dict"
def rIsi2 (K : PySem.W.Frag) : List V → Hp → VK → Prop := fun xs H Q => ∃ Z x d t, xs = [x, .ty (tyS t)] ∧ Rep K H Z x d ∧ Q (.bl (isTy t d)) H
theorem cb_isi : CallR X (.builtin "isinstance") (rIsi2 X.K) := by
  intro pins s σ H xs us Q I r h
  obtain ⟨Z, x, d, t, rfl, rd, k⟩ := h
  obtain ⟨u, w, rfl, ru, rw'⟩ := vals2 r
  have e : w = Value.type (tyS t) := rw'
  subst e
  obtain ⟨as, rr⟩ := rd.reads I ru
  cases t
  · exact isinstance_int_data rr fun tk _ => ⟨.bl _, H, I.tok tk, rfl, by cases d <;> exact k⟩
  · exact isinstance_bool_data rr fun tk _ => ⟨.bl _, H, I.tok tk, rfl, by cases d <;> exact k⟩
  · exact isinstance_str_data rr fun tk _ => ⟨.bl _, H, I.tok tk, rfl, by cases d <;> exact k⟩
  · exact isinstance_tuple_data rr fun tk _ => ⟨.bl _, H, I.tok tk, rfl, by cases d <;> exact k⟩
  · exact isinstance_list_data rr fun tk _ => ⟨.bl _, H, I.tok tk, rfl, by cases d <;> exact k⟩
  · exact isinstance_dict_data rr fun tk _ => ⟨.bl _, H, I.tok tk, rfl, by cases d <;> exact k⟩
theorem je_isi {t : Ty} {x y : Str} {p p2 : Pos} (hg : Gl X x) (hm : X.mg x = none) (hv : bootBuiltins x = some (.builtin "isinstance")) (hn : x ≠ "__name__") (hdb : (x == ("__debug__" : Str)) = false)
    (hg2 : Gl X y) (hm2 : X.mg y = none) (hv2 : bootBuiltins y = some (.type (tyS t))) (hn2 : y ≠ "__name__") (hdb2 : (y == ("__debug__" : Str)) = false) (hs : isStar a = false) (ha : JE g Eo X true a xa) : JE g Eo X al (.Call (.Name x p) [a, .Name y p2] [] pos) (.isi xa t) := by
  have hpa : PA X [a, .Name y p2] (tCons (tE g Eo X.K true xa) (tCons (tC (.ty (tyS t))) tNil)) := pa_cons ha (pa_cons (pe_bltn hg2 hm2 hv2 (show L2.RelV (.ty (tyS t)) _ from rfl) hn2 hdb2) pa_nil) (star_eq hs _ _)
  refine pe_imp (pe_callB cb_isi hg hm hv hpa hn hdb (star_eq hs _ _) rfl) fun σ H Q ⟨F, Z0, hd, hc, ρ, s, R, hp⟩ => ⟨F, Z0, hd, hc, ρ, s, R, Post.bndD (k := fun x => M.ret (SV.d (.bool (isTy t x)))) hp fun d s1 v H1 ev e1 h1 r1 hp1 => ?_⟩
  exact ⟨_, v, d, t, rfl, r1, hp1 _ H1 (Ext.refl _ _) h1 (.bl _)⟩
/-! ### items -/
theorem Reps.atI {K : PySem.W.Frag} {H : Hp} {Z : Addr → Prop} {xs : List V} {ds : List PyData} {i : Int} {d : PyData} (r : Reps K H Z xs ds) (h : L2.atI ds i = some d) : ∃ v, L2.atI xs i = some v ∧ Rep K H Z v d := by
  unfold L2.atI at h ⊢
  rw [← r.length] at h
  cases e : ixN xs.length i with
  | none => rw [e] at h; cases h
  | some j =>
    rw [e] at h
    exact r.getD h
theorem rep_int {K : PySem.W.Frag} {H : Hp} {Z : Addr → Prop} {v : V} {i : Int} (r : Rep K H Z v (.int i)) : v = .int i := by cases r; rfl
/-- an item of data -/
theorem idx_rd {K : PySem.W.Frag} {H2 : Hp} {Z Z2 : Addr → Prop} {v w : V} {d d2 r : PyData} {Q : VK} (r1 : Rep K H2 Z v d) (r2 : Rep K H2 Z2 w d2) (h : idxop d d2 = some r) (k : ∀ u, Rep K H2 Z u r → Q u H2) : rIx K v w H2 Q := by
  unfold idxop at h
  split at h
  · obtain ⟨b, xs, rfl, hh, _, _, rs⟩ := r1.list
    cases r2
    obtain ⟨u, hu, ru⟩ := rs.atI h
    exact .inl ⟨b, xs, _, u, rfl, rfl, SqL.of hh, hu, k u ru⟩
  · obtain ⟨b, xs, rfl, hh, _, rs⟩ := r1.tuple
    cases r2
    obtain ⟨u, hu, ru⟩ := rs.atI h
    exact .inr (.inl ⟨b, xs, _, u, rfl, rfl, hh, hu, k u ru⟩)
  · cases r1; cases r2
    split at h
    · rename_i hz
      obtain ⟨ch, h1, e⟩ := Option.map_eq_some_iff.mp h
      subst e
      exact .inr (.inr ⟨_, _, ch, rfl, rfl, hz, h1, k _ (.str _)⟩)
    · cases h
  · cases h
theorem hand_rd {K : PySem.W.Frag} {H : Hp} {Z : Addr → Prop} {hd hc : Addr} {s : Hand} {i : Int} {r : PyData} {Q : VK} (hh : HandAt H hd hc s) (nc : ¬ Z hc) (h : handAt s i = some r) (k : ∀ u, Rep K H Z u r → Q u H) : rIx K (.ref hd) (.int i) H Q := by
  unfold handAt at h
  split at h
  · cases h
    exact .inl ⟨hd, _, _, .ref hc, rfl, rfl, SqL.of hh.at_, rfl, k _ (.lst hh.cells nc (by rw [List.length_map]; exact hh.len) (Reps.of_ints _))⟩
  · cases h
    exact .inl ⟨hd, _, _, _, rfl, rfl, SqL.of hh.at_, rfl, k _ (.int _)⟩
  · cases h
    exact .inl ⟨hd, _, _, _, rfl, rfl, SqL.of hh.at_, rfl, k _ (.int _)⟩
  · cases h
    exact .inl ⟨hd, _, _, _, rfl, rfl, SqL.of hh.at_, rfl, k _ (.int _)⟩
  · cases h
    exact .inl ⟨hd, _, _, _, rfl, rfl, SqL.of hh.at_, rfl, k _ (.int _)⟩
  · cases h
theorem je_idx {i : Expr} {xi : Ex} (hs : PlainIx i) (ha : JE g Eo X al a xa) (hi : JE g Eo X true i xi) : JE g Eo X al (.Subscript a i pos) (.idx xa xi) := by
  refine pe_imp (pe_ix ix_seq ha hi hs) fun σ H Q ⟨F, Z0, hd, hc, ρ, s, R, hp⟩ => ⟨F, Z0, hd, hc, ρ, s, R, Post.bnd (k := fun x => M.bnd (toD (evE g.call xi ρ)) fun y => match x with | .d p => retD (idxop p y) | .hand => getHand y) hp fun x s1 v H1 _ e1 h1 r1 hp1 => ?_⟩
  refine ⟨F, Z0, hd, hc, ρ, s1, R.step e1 h1, Post.bndD hp1 fun d2 s2 w H2 _ e2 h2 r2 hp2 => ?_⟩
  have R2 := (R.step e1 h1).step e2 h2
  cases x with
  | d p =>
    obtain ⟨r, hr, hp3⟩ := Post.retD hp2
    exact idx_rd (Rep.mono (d := p) e2 (Zal.has al) r1) r2 hr fun u ru => hp3 u H2 (Ext.refl _ _) h2 ru
  | hand =>
    cases r1
    have hp2 : Post g.XR Eo hd hc H2 (fun H' v y => RepS X.K H' (Zal al Z0 hd g.ms ρ σ) hd v y) Q (getHand d2 s2) := hp2
    unfold getHand at hp2
    cases d2 <;> try exact hp2.elim
    cases e : handAt s2 ‹Int› with
    | none => simp only [e] at hp2; exact hp2.elim
    | some d =>
      simp only [e] at hp2
      rw [rep_int r2]
      exact hand_rd h2 (R2.ncal al) e fun u ru => hp2 u H2 (Ext.refl _ _) h2 ru
/-- an item of a list that the frame owns -/
theorem je_idx_own {n : Nat} {x : Str} {p : Pos} {i : Expr} {xi : Ex} (hs : PlainIx i) (hN : X.N[n]? = some x) (hv : Vis X.env.scope x) (hdb : (x == ("__debug__" : Str)) = false) (hcd : (x == ("__classdict__" : Str)) = false) (hn : n ∈ g.ms) (hi : JE g Eo X true i xi) :
    JE g Eo X al (.Subscript (.Name x p) i pos) (.idx (.v n) xi) := by
  refine pe_imp (pe_ix ix_seq (pe_var hN hv hdb hcd) hi hs) fun σ H Q ⟨F, Z0, hd, hc, ρ, s, R, hp⟩ => ?_
  have hp : Post g.XR Eo hd hc H (fun H' v y => RepS X.K H' (Zal al Z0 hd g.ms ρ σ) hd v y) Q (M.bnd (match ρ[n]? with | some (some x) => M.ret x | _ => bad) (fun x => M.bnd (toD (evE g.call xi ρ)) fun y => match x with | .d p => retD (idxop p y) | .hand => getHand y) s) := hp
  cases e : ρ[n]? with
  | none => rw [e] at hp; exact hp.elim
  | some o =>
    cases o with
    | none => rw [e] at hp; exact hp.elim
    | some y =>
      rw [e] at hp
      obtain ⟨v, hv, ⟨l, xs, ds, rfl, rfl, h1, h2, h3, h4, h5, h6, h7⟩⟩ := R.own n y hn e
      refine ⟨_, hv, F, Z0, hd, hc, ρ, s, R, ?_⟩
      have hp : Post g.XR Eo hd hc H (fun H' v y => RepS X.K H' (Zal al Z0 hd g.ms ρ σ) hd v y) Q (M.bnd (toD (evE g.call xi ρ)) (fun y => retD (idxop (.list ds) y)) s) := hp
      refine Post.bndD hp fun d2 s2 w H2 _ e2 hh2 r2 hp2 => ?_
      obtain ⟨r, hr, hp3⟩ := Post.retD hp2
      unfold idxop at hr
      cases d2 <;> try (cases hr; done)
      have r3 := h3.mono e2 Zf.has
      obtain ⟨u, hu, ru⟩ := r3.atI hr
      cases r2
      exact .inl ⟨l, xs, _, u, rfl, rfl, SqL.of (e2 _ _ h1 h6), hu, hp3 u H2 (Ext.refl _ _) hh2 (ru.less fun a z => Zal.le z)⟩
/-! ### slices -/
theorem jo_none : JO g Eo X none none := ⟨fun pins s σ H Q I ⟨F, Z0, hd, hc, ρ, hs, R, hp⟩ => po_none.run pins s σ H Q I (hp none H (Ext.refl _ _) R.hand rfl)⟩
theorem jo_some {e : Expr} {x : Ex} (h : JE g Eo X true e x) : JO g Eo X (some e) (some x) := by
  refine ⟨fun pins s σ H Q I ⟨F, Z0, hd, hc, ρ, hs, R, hp⟩ => (po_some h).run pins s σ H Q I ⟨F, Z0, hd, hc, ρ, hs, R, Post.bndD (k := fun x => match x with | .int i => M.ret (some i) | _ => bad) hp fun d s1 v H1 _ e1 h1 r1 hp1 => ?_⟩⟩
  cases d <;> try exact hp1.elim
  exact ⟨_, rep_int r1, hp1 _ H1 (Ext.refl _ _) h1 rfl⟩
theorem Reps.cut {K : PySem.W.Frag} {H : Hp} {Z : Addr → Prop} {xs : List V} {ds : List PyData} (r : Reps K H Z xs ds) (lo hi : Option Int) : Reps K H Z (cutV xs lo hi) (cutD ds lo hi) := by
  unfold cutV cutD
  rw [r.length]
  exact (r.drop _).take _
def rSl2 (K : PySem.W.Frag) : V → Option Int → Option Int → Hp → VK → Prop := fun x lo hi H Q => rSlL K x lo hi H Q ∨ rSlA K x lo hi H Q
theorem sl_2 : SlR X (rSl2 X.K) := SlR.or sl_list sl_tupA
theorem sl_rd {K : PySem.W.Frag} {H : Hp} {Z : Addr → Prop} {v : V} {d r : PyData} {lo hi : Option Int} {Q : VK} (r1 : Rep K H Z v d) (tr : ∀ a, Z a → H a ≠ none) (h : sliceop d lo hi = some r) (k : ∀ u H', Keeps H H' → Rep K H' Z u r → Q u H') : rSl2 K v lo hi H Q := by
  unfold sliceop at h
  split at h
  · cases h
    obtain ⟨b, xs, rfl, hh, _, hz, rs⟩ := r1.list
    exact .inl ⟨b, xs, rfl, SqL.of hh, fun p hp => k _ _ (Keeps.upd hp) (Rep.newL hp tr (Nat.le_trans (cutV_length xs _ _) hz) (rs.cut _ _))⟩
  · cases h
    obtain ⟨b, xs, rfl, hh, hz, rs⟩ := r1.tuple
    refine .inr ⟨b, xs, rfl, hh, fun e => ?_, fun _ p hp => k _ _ (Keeps.upd hp) (Rep.newT hp tr (Nat.le_trans (cutV_length xs _ _) hz) (rs.cut _ _))⟩
    refine k _ _ (Keeps.refl _) ?_
    have : cutD ‹List PyData› lo hi = ‹List PyData› := by
      unfold cutD
      rw [← rs.length, e.1, e.2, rs.length]
      simp
    rw [this]
    exact r1
  · cases h
theorem je_slice {lo hi : Option Expr} {xlo xhi : Option Ex} {p2 : Pos} (ha : JE g Eo X al a xa) (hl : JO g Eo X lo xlo) (hh : JO g Eo X hi xhi) : JE g Eo X al (.Subscript a (.Slice lo hi none p2) pos) (.slice xa xlo xhi) := by
  refine pe_imp (pe_slice sl_2 ha hl hh) fun σ H Q ⟨F, Z0, hd, hc, ρ, s, R, hp⟩ => ⟨F, Z0, hd, hc, ρ, s, R, Post.bndD (k := fun x => M.bnd (evO g.call xlo ρ) fun l => M.bnd (evO g.call xhi ρ) fun h => retD (sliceop x l h)) hp fun d s1 v H1 _ e1 h1 r1 hp1 => ?_⟩
  refine ⟨F, Z0, hd, hc, ρ, s1, R.step e1 h1, Post.bnd hp1 fun l s2 l2 H2 _ e2 h2 r2 hp2 => ?_⟩
  subst r2
  refine ⟨F, Z0, hd, hc, ρ, s2, (R.step e1 h1).step e2 h2, Post.bnd hp2 fun l' s3 l3 H3 _ e3 h3 r3 hp3 => ?_⟩
  subst r3
  obtain ⟨r, hr, hp4⟩ := hp3.retD
  exact sl_rd ((r1.mono e2 (Zal.has al)).mono e3 (Zal.has al)) (fun z hz => (((R.step e1 h1).step e2 h2).step e3 h3).trf z hz.le) hr fun u H' k ru => hp4 u H' k.ext (h3.keeps k) ru
/-! ### list(range(..)) -/
theorem upto_reps {K : PySem.W.Frag} {H : Hp} {Z : Addr → Prop} (lo hi : Int) : Reps K H Z (rgV lo hi) (upto lo hi) := by
  unfold rgV upto
  have : ∀ l : List Nat, Reps K H Z (l.map fun i => V.int (lo + (i : Nat))) (l.map fun k => PyData.int (lo + (k : Nat))) := by
    intro l
    induction l with
    | nil => exact .nil
    | cons x l ih => exact .cons (.int _) ih
  exact this _
theorem je_lrange1 {p p2 p3 : Pos} (hc : X.calm = true) (hg : Gl X "list") (hm : X.mg "list" = none) (hg2 : Gl X "range") (hm2 : X.mg "range" = none) (hs : isStar a = false) (ha : JE g Eo X true a xa) :
    JE g Eo X al (.Call (.Name "list" p) [.Call (.Name "range" p2) [a] [] p3] [] pos) (.lrange [xa]) := by
  refine pe_imp (pe_listRg hc hg hm (prg_1 hg2 hm2 ha (star_eq hs _ _)) rfl) fun σ H Q ⟨F, Z0, hd, hc, ρ, s, R, hp⟩ => ⟨F, Z0, hd, hc, ρ, s, R, ?_⟩
  have hp : Post g.XR Eo hd hc H (fun H' v y => RepS X.K H' (Zal al Z0 hd g.ms ρ σ) hd v y) Q (M.bnd (toD (evE g.call xa ρ)) (fun d => M.bnd (lift (rangeD [d])) fun xs => M.ret (SV.d (.list xs))) s) := by
    have e : evE g.call (.lrange [xa]) ρ = M.bnd (toD (evE g.call xa ρ)) (fun d => M.bnd (lift (rangeD [d])) fun xs => M.ret (SV.d (.list xs))) := by
      show M.bnd (M.bnd (toD (evE g.call xa ρ)) fun d => M.bnd (M.ret []) fun ds => M.ret (d :: ds)) _ = _
      rw [bnd_assoc]
      rfl
    rw [← e]
    exact hp
  refine Post.bndD hp fun d s1 v H1 _ e1 h1 r1 hp1 => ?_
  obtain ⟨xs, hx, hp2⟩ := hp1.lift
  unfold rangeD at hx
  split at hx
  · rename_i hq
    cases hq
    split at hx
    · rename_i j hz
      cases hx
      simp only [small62, Bool.and_eq_true, decide_eq_true_eq] at hz
      refine ⟨_, rep_int r1, ⟨by omega, by omega, hz.1.1, hz.1.2, by omega⟩, fun q hq => ?_⟩
      exact hp2 _ _ (Ext.upd hq) (h1.upd hq) (Rep.newL hq (fun a z => (R.step e1 h1).trf a z.le) (by rw [rgV_length, sizeLine_eq]; omega) (upto_reps _ _))
    · cases hx
  · rename_i hq; cases hq
  · cases hx
end
end Wv

set_option Elab.async false
set_option autoImplicit false
set_option linter.all false
set_option maxRecDepth 100000
set_option maxHeartbeats 4000000
namespace Wv
open PySem PySem.Spec PyProof.Rows L2 PySem.W
/-! ### targets -/
mutual
def tG (K : PySem.W.Frag) : Tgt → TG
  | .one i => gName i
  | .tup ts => gTup K ts.length (tGs K ts)
def tGs (K : PySem.W.Frag) : List Tgt → TGs
  | [] => gNil
  | t :: ts => gCons (tG K t) (tGs K ts)
end
inductive Prs (K : PySem.W.Frag) (H : Hp) (Z : Addr → Prop) : List (Nat × V) → List (Nat × PyData) → Prop
  | nil : Prs K H Z [] []
  | cons {i : Nat} {v : V} {d : PyData} {l' : List (Nat × V)} {l : List (Nat × PyData)} : Rep K H Z v d → Prs K H Z l' l → Prs K H Z ((i, v) :: l') ((i, d) :: l)
def setV (σ : L2.St) : List (Nat × V) → L2.St
  | [] => σ
  | (i, v) :: r => setV (σ.set i (some v)) r
theorem setV_app (σ : L2.St) : ∀ l m : List (Nat × V), setV σ (l ++ m) = setV (setV σ l) m := fun l => by
  induction l generalizing σ with
  | nil => intro m; rfl
  | cons p l ih => intro m; obtain ⟨i, v⟩ := p; exact ih _ m
theorem setAll_app (ρ : Env) : ∀ l m : List (Nat × PyData), setAll ρ (l ++ m) = setAll (setAll ρ l) m := fun l => by
  induction l generalizing ρ with
  | nil => intro m; rfl
  | cons p l ih => intro m; obtain ⟨i, v⟩ := p; exact ih _ m
section
variable {K : PySem.W.Frag} {H : Hp} {Z : Addr → Prop}
theorem Prs.app : ∀ {l' : List (Nat × V)} {l : List (Nat × PyData)} {m' : List (Nat × V)} {m : List (Nat × PyData)}, Prs K H Z l' l → Prs K H Z m' m → Prs K H Z (l' ++ m') (l ++ m)
  | _, _, _, _, .nil, q => q
  | _, _, _, _, .cons r t, q => .cons r (t.app q)
mutual
theorem tG_ok : ∀ (t : Tgt) (d : PyData) (v : V) (l : List (Nat × PyData)) (σ : L2.St) (Q : L2.St → Hp → Prop), bindL t d = some l → Rep K H Z v d → (∀ l', Prs K H Z l' l → Q (setV σ l') H) → tG K t v σ H Q
  | .one i, d, v, l, σ, Q, h, r, k => by
    have h : some [(i, d)] = some l := h
    cases h
    exact k [(i, v)] (.cons r .nil)
  | .tup ts, d, v, l, σ, Q, h, r, k => by
    cases d with
    | tuple ds =>
      have h : bindLs ts ds = some l := h
      obtain ⟨a, xs, rfl, hh, _, rs⟩ := r.tuple
      obtain ⟨q1, q2⟩ := tGs_ok ts ds xs l σ Q h rs k
      exact ⟨a, xs, rfl, hh, q1, q2⟩
    | _ => cases h
theorem tGs_ok : ∀ (ts : List Tgt) (ds : List PyData) (vs : List V) (l : List (Nat × PyData)) (σ : L2.St) (Q : L2.St → Hp → Prop), bindLs ts ds = some l → Reps K H Z vs ds → (∀ l', Prs K H Z l' l → Q (setV σ l') H) → vs.length = ts.length ∧ tGs K ts vs σ H Q
  | [], ds, vs, l, σ, Q, h, r, k => by
    cases ds with
    | nil =>
      have h : some [] = some l := h
      cases h
      cases r
      exact ⟨rfl, rfl, k [] .nil⟩
    | cons _ _ => cases h
  | t :: ts, ds, vs, l, σ, Q, h, r, k => by
    cases ds with
    | nil => cases h
    | cons d ds =>
      have h : (match bindL t d with | some l => (bindLs ts ds).map (l ++ ·) | none => none) = some l := h
      cases e : bindL t d with
      | none => rw [e] at h; cases h
      | some l1 =>
        rw [e] at h
        obtain ⟨l2, e2, rfl⟩ := Option.map_eq_some_iff.mp h
        cases r with
        | cons r rr =>
          refine ⟨?_, _, _, rfl, tG_ok t d _ l1 σ _ e r fun l1' p1 => (tGs_ok ts ds _ l2 _ Q e2 rr fun l2' p2 => ?_).2⟩
          · exact congrArg (· + 1) (tGs_ok ts ds _ l2 σ (fun _ _ => True) e2 rr fun _ _ => True.intro).1
          · rw [← setV_app]
            exact k _ (p1.app p2)
end
end

/-! ### the relation, when slots are set -/
theorem wipe_get {σ : L2.St} {i : Nat} : ∀ {vs : List Nat}, i ∉ vs → (wipe σ vs)[i]? = σ[i]? := fun {vs} h => by
  induction vs with
  | nil => rfl
  | cons v vs ih =>
    have h1 : i ≠ v := fun e => h (by simp [e])
    have h2 : i ∉ vs := fun e => h (List.mem_cons_of_mem _ e)
    show ((wipe σ vs).set v none)[i]? = _
    rw [List.getElem?_set_ne (Ne.symm h1)]
    exact ih h2
theorem wipeE_get {ρ : Env} {i : Nat} : ∀ {vs : List Nat}, i ∉ vs → (wipeE ρ vs)[i]? = ρ[i]? := fun {vs} h => by
  induction vs with
  | nil => rfl
  | cons v vs ih =>
    have h1 : i ≠ v := fun e => h (by simp [e])
    have h2 : i ∉ vs := fun e => h (List.mem_cons_of_mem _ e)
    show ((wipeE ρ vs).set v none)[i]? = _
    rw [List.getElem?_set_ne (Ne.symm h1)]
    exact ih h2
theorem wipeE_in {ρ : Env} {i : Nat} {x : SV} : ∀ {vs : List Nat}, i ∈ vs → (wipeE ρ vs)[i]? ≠ some (some x) := fun {vs} h => by
  induction vs with
  | nil => cases h
  | cons v vs ih =>
    show ((wipeE ρ vs).set v none)[i]? ≠ _
    by_cases e : v = i
    · subst e
      by_cases hl : v < (wipeE ρ vs).length
      · rw [List.getElem?_set_self hl]; exact fun z => nomatch z
      · rw [List.getElem?_eq_none (by simpa using hl)]; exact fun z => nomatch z
    · rw [List.getElem?_set_ne e]
      exact ih ((List.mem_cons.mp h).elim (fun z => absurd z.symm e) id)
theorem wipeE_len (ρ : Env) : ∀ vs : List Nat, (wipeE ρ vs).length = ρ.length
  | [] => rfl
  | v :: vs => by show ((wipeE ρ vs).set v none).length = _; rw [List.length_set, wipeE_len]
section
variable {K : PySem.W.Frag} {F H H' : Hp} {Z0 : Addr → Prop} {hd hc : Addr} {ms : List Nat} {ρ ρ' : Env} {s s' : Hand} {σ σ' : L2.St}
/-- the frame's own lists are told by the slots ms alone -/
theorem OwnA.same (h : ∀ i ∈ ms, ρ[i]? = ρ'[i]? ∧ σ[i]? = σ'[i]?) {a : Addr} : OwnA ms ρ σ a ↔ OwnA ms ρ' σ' a := by
  constructor
  · rintro ⟨i, hi, ⟨x, hx⟩, hs⟩
    exact ⟨i, hi, ⟨x, by rw [← (h i hi).1]; exact hx⟩, by rw [← (h i hi).2]; exact hs⟩
  · rintro ⟨i, hi, ⟨x, hx⟩, hs⟩
    exact ⟨i, hi, ⟨x, by rw [(h i hi).1]; exact hx⟩, by rw [(h i hi).2]; exact hs⟩
theorem Zf.same (h : ∀ i ∈ ms, ρ[i]? = ρ'[i]? ∧ σ[i]? = σ'[i]?) {a : Addr} : Zf Z0 hd ms ρ σ a → Zf Z0 hd ms ρ' σ' a := fun z => z.imp id fun z => z.imp id fun z => (OwnA.same h).mp z
theorem Zal.same {al : Bool} (h : ∀ i ∈ ms, ρ[i]? = ρ'[i]? ∧ σ[i]? = σ'[i]?) {a : Addr} : Zal al Z0 hd ms ρ σ a → Zal al Z0 hd ms ρ' σ' a := by
  cases al
  · exact Zf.same h
  · exact id
theorem same_symm (h : ∀ i ∈ ms, ρ[i]? = ρ'[i]? ∧ σ[i]? = σ'[i]?) : ∀ i ∈ ms, ρ'[i]? = ρ[i]? ∧ σ'[i]? = σ[i]? := fun i hi => ⟨(h i hi).1.symm, (h i hi).2.symm⟩
/-- other slots than the owned ones change -/
theorem Rel.slots (R : Rel K F Z0 hd hc ms ρ s σ H) (h : ∀ i ∈ ms, ρ[i]? = ρ'[i]? ∧ σ[i]? = σ'[i]?) (hl : ρ'.length = σ'.length)
    (hs : ∀ (i : Nat) x, i ∉ ms → ρ'[i]? = some (some x) → ∃ v, σ'[i]? = some (some v) ∧ RepS K H (Zf Z0 hd ms ρ σ) hd v x) : Rel K F Z0 hd hc ms ρ' s σ' H where
  ext := R.ext
  tr := R.tr
  hand := R.hand
  nc := R.nc
  sh := fun i x hi hx => by
    obtain ⟨v, h1, h2⟩ := hs i x hi hx
    exact ⟨v, h1, h2.less fun a z => Zf.same (same_symm h) z⟩
  own := fun i x hi hx => by
    obtain ⟨v, h1, ⟨a, xs, ds, e1, e2, h2, h3, h4, h5⟩⟩ := R.own i x hi (by rw [(h i hi).1]; exact hx)
    exact ⟨v, by rw [← (h i hi).2]; exact h1, ⟨a, xs, ds, e1, e2, h2, h3, h4.less fun a z => Zf.same (same_symm h) z, h5⟩⟩
  dis := fun i j x y a hi hj h1 h2 h3 h4 => R.dis i j x y a hi hj (by rw [(h i hi).1]; exact h1) (by rw [(h j hj).1]; exact h2) (by rw [(h i hi).2]; exact h3) (by rw [(h j hj).2]; exact h4)
  len := hl
theorem Rel.wipe (R : Rel K F Z0 hd hc ms ρ s σ H) {vs : List Nat} (h : ∀ i ∈ vs, i ∉ ms) : Rel K F Z0 hd hc ms (wipeE ρ vs) s (L2.wipe σ vs) H := by
  refine R.slots (fun i hi => ?_) (by rw [wipeE_len, wipe_length]; exact R.len) fun i x hi hx => ?_
  · have : i ∉ vs := fun e => h i e hi
    rw [wipe_get this, wipeE_get this]
    exact ⟨rfl, rfl⟩
  · by_cases hv : i ∈ vs
    · exact absurd hx (wipeE_in hv)
    · rw [wipe_get hv]
      rw [wipeE_get hv] at hx
      exact R.sh i x hi hx
theorem Rel.set1 (R : Rel K F Z0 hd hc ms ρ s σ H) {i : Nat} {x : SV} {v : V} (hi : i ∉ ms) (r : RepS K H (Zf Z0 hd ms ρ σ) hd v x) : Rel K F Z0 hd hc ms (ρ.set i (some x)) s (σ.set i (some v)) H := by
  have ne : ∀ j ∈ ms, i ≠ j := fun j hj e => hi (e ▸ hj)
  refine R.slots (fun j hj => by rw [List.getElem?_set_ne (ne j hj), List.getElem?_set_ne (ne j hj)]; exact ⟨rfl, rfl⟩) (by simpa using R.len) fun j y hj hy => ?_
  by_cases e : i = j
  · subst e
    by_cases hl : i < ρ.length
    · rw [List.getElem?_set_self hl] at hy
      cases hy
      exact ⟨v, by rw [List.getElem?_set_self (by rw [← R.len]; exact hl)], r⟩
    · rw [List.getElem?_eq_none (by simpa using hl)] at hy; cases hy
  · rw [List.getElem?_set_ne e] at hy ⊢
    exact R.sh j y hj hy
theorem Rel.setAll : ∀ {l' : List (Nat × V)} {l : List (Nat × PyData)} {ρ : Env} {σ : L2.St}, Rel K F Z0 hd hc ms ρ s σ H → Prs K H (Zf Z0 hd ms ρ σ) l' l → (∀ p ∈ l, p.1 ∉ ms) → Rel K F Z0 hd hc ms (Wv.setAll ρ l) s (setV σ l') H
  | _, _, ρ, σ, R, .nil, _ => R
  | _, _, ρ, σ, R, .cons (i := i) (v := v) (d := d) r t, h => by
    have hi : i ∉ ms := h (i, d) List.mem_cons_self
    have ne : ∀ j ∈ ms, i ≠ j := fun j hj e => hi (e ▸ hj)
    have same : ∀ j ∈ ms, ρ[j]? = (ρ.set i (some (.d d)))[j]? ∧ σ[j]? = (σ.set i (some v))[j]? := fun j hj => by rw [List.getElem?_set_ne (ne j hj), List.getElem?_set_ne (ne j hj)]; exact ⟨rfl, rfl⟩
    have R1 := R.set1 (x := .d d) hi r
    have t' : ∀ {l' : List (Nat × V)} {l : List (Nat × PyData)}, Prs K H (Zf Z0 hd ms ρ σ) l' l → Prs K H (Zf Z0 hd ms (ρ.set i (some (.d d))) (σ.set i (some v))) l' l := by
      intro l' l p
      induction p with
      | nil => exact .nil
      | cons r _ ih => exact .cons (r.less fun a z => Zf.same (same_symm same) z) ih
    exact R1.setAll (t' t) fun p hp => h p (List.mem_cons_of_mem _ hp)
theorem setV_get {i : Nat} : ∀ {l : List (Nat × V)} {σ : L2.St}, (∀ p ∈ l, p.1 ≠ i) → (setV σ l)[i]? = σ[i]?
  | [], _, _ => rfl
  | (j, v) :: r, σ, h => by
    show (setV (σ.set j (some v)) r)[i]? = _
    rw [setV_get fun p hp => h p (List.mem_cons_of_mem _ hp), List.getElem?_set_ne (h (j, v) List.mem_cons_self)]
theorem setAll_get {i : Nat} : ∀ {l : List (Nat × PyData)} {ρ : Env}, (∀ p ∈ l, p.1 ≠ i) → (Wv.setAll ρ l)[i]? = ρ[i]?
  | [], _, _ => rfl
  | (j, v) :: r, ρ, h => by
    show (Wv.setAll (ρ.set j (some (.d v))) r)[i]? = _
    rw [setAll_get fun p hp => h p (List.mem_cons_of_mem _ hp), List.getElem?_set_ne (h (j, v) List.mem_cons_self)]
theorem setV_len : ∀ {l : List (Nat × V)} {σ : L2.St}, (setV σ l).length = σ.length
  | [], _ => rfl
  | (j, v) :: r, σ => by
    show (setV (σ.set j (some v)) r).length = _
    rw [setV_len, List.length_set]
theorem Prs.ix : ∀ {l' : List (Nat × V)} {l : List (Nat × PyData)} {Z : Addr → Prop}, Prs K H Z l' l → l'.map (·.1) = l.map (·.1)
  | _, _, _, .nil => rfl
  | _, _, _, .cons _ t => by simp [t.ix]
theorem wipe_none {σ : L2.St} {i : Nat} : ∀ {vs : List Nat}, i ∈ vs → i < σ.length → (L2.wipe σ vs)[i]? = some none := fun {vs} h hl => by
  induction vs with
  | nil => cases h
  | cons v vs ih =>
    show ((L2.wipe σ vs).set v none)[i]? = _
    by_cases e : v = i
    · subst e
      rw [List.getElem?_set_self (by rw [wipe_length]; exact hl)]
    · rw [List.getElem?_set_ne e]
      exact ih ((List.mem_cons.mp h).elim (fun z => absurd z.symm e) id)
theorem wipe_back {σ : L2.St} {l : List (Nat × V)} {vs : List Nat} (h : ∀ p ∈ l, p.1 ∈ vs) : L2.wipe (setV (L2.wipe σ vs) l) vs = L2.wipe σ vs := by
  refine List.ext_getElem? fun i => ?_
  by_cases hv : i ∈ vs
  · by_cases hl : i < σ.length
    · rw [wipe_none hv (by rw [setV_len, wipe_length]; exact hl), wipe_none hv hl]
    · rw [List.getElem?_eq_none (by rw [wipe_length, setV_len, wipe_length]; omega), List.getElem?_eq_none (by rw [wipe_length]; omega)]
  · have hne : ∀ p ∈ l, p.1 ≠ i := fun p hp e => hv (by rw [← e]; exact h p hp)
    rw [wipe_get hv, setV_get hne, wipe_get hv]
/-- one more address to keep off, a new list there -/
theorem Rel.addZ (R : Rel K F Z0 hd hc ms ρ s σ H) {D : Addr} {o : HO} (n : H D = none) : Rel K F (fun a => Z0 a ∨ a = D) hd hc ms ρ s σ (upd H D o) := by
  have k : Keeps H (upd H D o) := Keeps.upd n
  have hD : hd ≠ D := fun e => by have := R.hand.at_; rw [e, n] at this; cases this
  have cD : hc ≠ D := fun e => by have := R.hand.cells; rw [e, n] at this; cases this
  have zz : ∀ a, Zf (fun a => Z0 a ∨ a = D) hd ms ρ σ a → Zf Z0 hd ms ρ σ a ∨ (upd H D o) a = (upd H D o) D ∧ a = D := fun a z => by
    rcases z with (z | z) | z
    · exact .inl (.inl z)
    · exact .inr ⟨by rw [z], z⟩
    · exact .inl (.inr z)
  have zm : ∀ a, Zf (fun a => Z0 a ∨ a = D) hd ms ρ σ a → Zf Z0 hd ms ρ σ a ∨ H a = none := fun a z => (zz a z).imp id fun q => by rw [q.2]; exact n
  exact {
    ext := R.ext.trans (Ext.upd n)
    tr := fun a ha => ha.elim (fun z => by
      cases q : H a with
      | none => exact absurd q (R.tr a z)
      | some u => rw [k a u q]; exact fun z => nomatch z) fun e => by rw [e, upd_same]; exact fun z => nomatch z
    hand := R.hand.upd n
    nc := ⟨fun z => z.elim R.nc.1 cD, R.nc.2⟩
    sh := fun i x hi hx => by
      obtain ⟨v, h1, h2⟩ := R.sh i x hi hx
      exact ⟨v, h1, (h2.more zm).mono k.ext Zf.has⟩
    own := fun i x hi hx => by
      obtain ⟨v, h1, ⟨a, xs, ds, e1, e2, h2, h3, h4, h5, h6, h7, h8⟩⟩ := R.own i x hi hx
      exact ⟨v, h1, ⟨a, xs, ds, e1, e2, k _ _ h2, h3, (h4.more zm).mono k.ext Zf.has, h5, fun z => z.elim h6 (ne_of_none h2 n), h7, h8⟩⟩
    dis := R.dis
    len := R.len }
/-- an address that is kept off is written -/
theorem Rel.write (R : Rel K F Z0 hd hc ms ρ s σ H) {D : Addr} {o : HO} (z : Z0 D) (n : F D = none) (hD : D ≠ hd) : Rel K F Z0 hd hc ms ρ s σ (upd H D o) := by
  have k : ∀ b u, H b = some u → ¬ Zf Z0 hd ms ρ σ b → (upd H D o) b = some u := fun b u e nz => by
    have hb : b ≠ D := fun q => nz (.inl (by rw [q]; exact z))
    rw [upd_ne hb]; exact e
  have cD : hc ≠ D := fun e => R.nc.1 (e ▸ z)
  exact {
    ext := fun b u e hb => by rw [upd_ne (ne_of_none e n)]; exact R.ext b u e hb
    tr := fun a ha => by
      by_cases e : a = D
      · rw [e, upd_same]; exact fun z => nomatch z
      · rw [upd_ne e]; exact R.tr a ha
    hand := ⟨by rw [upd_ne hD.symm]; exact R.hand.at_, by rw [upd_ne cD]; exact R.hand.cells, R.hand.len⟩
    nc := R.nc
    sh := fun i x hi hx => by
      obtain ⟨v, h1, h2⟩ := R.sh i x hi hx
      refine ⟨v, h1, ?_⟩
      cases x with
      | d p => exact Rep.move (H' := upd H D o) k (fun _ _ n => n) p v h2
      | hand => exact h2
    own := fun i x hi hx => by
      obtain ⟨v, h1, ⟨a, xs, ds, e1, e2, h2, h3, h4, h5, h6, h7, h8⟩⟩ := R.own i x hi hx
      have ha : a ≠ D := fun q => h6 (by rw [q]; exact z)
      exact ⟨v, h1, ⟨a, xs, ds, e1, e2, by rw [upd_ne ha]; exact h2, h3, h4.move k fun _ _ n => n, h5, h6, h7, h8⟩⟩
    dis := R.dis
    len := R.len }
end
end Wv

set_option Elab.async false
set_option autoImplicit false
set_option linter.all false
set_option maxRecDepth 100000
set_option maxHeartbeats 4000000
namespace Wv
open PySem PySem.Spec PyProof.Rows L2 PySem.W
/-! ### the places of a target -/
mutual
def tgIx : Tgt → List Nat
  | .one i => [i]
  | .tup ts => tgIxs ts
def tgIxs : List Tgt → List Nat
  | [] => []
  | t :: ts => tgIx t ++ tgIxs ts
end
/-! ### what is walked -/
def Stay (Z : Addr → Prop) (H0 H : Hp) : Prop := ∀ b o, H0 b = some o → ¬ Z b → H b = some o
structure Walks (K : PySem.W.Frag) (Zs Zi : Addr → Prop) (J : L2.It) (ds : List PyData) (H0 : Hp) : Prop where
  stop : ∀ (i : Nat) H, Stay Zs H0 H → ds.length ≤ i → J.stop i H
  item : ∀ (i : Nat) H d (Zj : Addr → Prop), (∀ a, Zj a → Zi a ∨ H0 a = none) → Stay Zs H0 H → (∀ a, Zj a → H a ≠ none) → ds[i]? = some d → J.go i H ∧ ∀ x H', J.yld i H x H' → Keeps H H' ∧ Rep K H' Zj x d
  len : ds.length ≤ sizeLine
def tI (g : Sg) (Eo : XK) (K : PySem.W.Frag) (own : Bool) (it : It) : TI := fun σ H R => ∃ F Z0 hd hc ρ s, Rel K F Z0 hd hc g.ms ρ s σ H ∧
  Post g.XR Eo hd hc H (fun H' J ds => Walks K (Zal own Z0 hd g.ms ρ σ) (Zf Z0 hd g.ms ρ σ) J ds H') R (evI g.call it ρ s)
abbrev JI (g : Sg) (Eo : XK) (X : Cx) (own : Bool) (tg : Expr) (e : Expr) (it : It) : Prop := PI X tg e (tI g Eo X.K own it)
section
variable {K : PySem.W.Frag} {Zs Zi : Addr → Prop} {H0 : Hp}
theorem Stay.rep {Z Z' : Addr → Prop} {H H' : Hp} (st : Stay Z H H') (le : ∀ b, Z b → Z' b) {v : V} {d : PyData} (r : Rep K H Z' v d) : Rep K H' Z' v d := r.move (fun b o hb nb => st b o hb fun z => nb (le b z)) (fun _ _ n => n) _ _
theorem Stay.rep2 {Z Zi Zj : Addr → Prop} {H H' : Hp} (st : Stay Z H H') (le : ∀ b, Z b → Zi b) (le2 : ∀ a, Zj a → Zi a ∨ H a = none) {v : V} {d : PyData} (r : Rep K H Zi v d) : Rep K H' Zj v d :=
  r.move (fun b o hb nb => st b o hb fun z => nb (le b z)) (fun b hb nb z => (le2 b z).elim nb hb) _ _
/-- sequences that stand still -/
def Still (K : PySem.W.Frag) (Zs : Addr → Prop) (H0 : Hp) (sq : Hp → List V → Prop) (xs : List V) : Prop := ∀ H, Stay Zs H0 H → sq H xs
theorem Rep.stillL {v : V} {ds : List PyData} (r : Rep K H0 Zs v (.list ds)) : ∃ a xs, v = .ref a ∧ Still K Zs H0 (fun H xs => SqL K H a xs) xs ∧ Reps K H0 Zs xs ds ∧ xs.length ≤ sizeLine := by
  obtain ⟨a, xs, rfl, h, n, hz, rs⟩ := r.list
  exact ⟨a, xs, rfl, fun H st => SqL.of (st a _ h n), rs, hz⟩
theorem Rep.stillT {v : V} {ds : List PyData} (r : Rep K H0 Zs v (.tuple ds)) : ∃ a xs, v = .ref a ∧ Still K Zs H0 (fun H xs => SqT K H a xs) xs ∧ Reps K H0 Zs xs ds ∧ xs.length ≤ sizeLine := by
  cases r with
  | tup h n z rs => exact ⟨_, _, rfl, fun H st => SqT.of (st _ _ h n), rs, z⟩
  | tupK h z rs => exact ⟨_, _, rfl, fun H st => h.sqT, rs, z⟩
theorem Stay.refl (Z : Addr → Prop) (H : Hp) : Stay Z H H := fun _ _ h _ => h
theorem Walks.list {a : Addr} {xs : List V} {ds : List PyData} (h : Still K Zs H0 (fun H xs => SqL K H a xs) xs) (le : ∀ b, Zs b → Zi b) (r : Reps K H0 Zi xs ds) (hz : xs.length ≤ sizeLine) : Walks K Zs Zi (Itl K a) ds H0 where
  len := by rw [← r.length]; exact hz
  stop := fun i H st hl => ⟨xs, h H st, by rw [r.length]; exact hl⟩
  item := fun i H d Zj le2 st tr hd => by
    obtain ⟨v, hv, _⟩ := r.getD hd
    refine ⟨⟨xs, v, h H st, hv⟩, fun x H' y => ?_⟩
    obtain ⟨rfl, y⟩ := y
    refine ⟨Keeps.refl _, ?_⟩
    obtain ⟨d', hd', rd⟩ := r.get (y xs (h _ st))
    rw [hd] at hd'
    cases hd'
    exact st.rep2 le le2 rd
theorem Walks.tup {a : Addr} {xs : List V} {ds : List PyData} (h : Still K Zs H0 (fun H xs => SqT K H a xs) xs) (le : ∀ b, Zs b → Zi b) (r : Reps K H0 Zi xs ds) (hz : xs.length ≤ sizeLine) : Walks K Zs Zi (Itt K a) ds H0 where
  len := by rw [← r.length]; exact hz
  stop := fun i H st hl => ⟨xs, h H st, by rw [r.length]; exact hl⟩
  item := fun i H d Zj le2 st tr hd => by
    obtain ⟨v, hv, _⟩ := r.getD hd
    refine ⟨⟨xs, v, h H st, hv⟩, fun x H' y => ?_⟩
    obtain ⟨rfl, y⟩ := y
    refine ⟨Keeps.refl _, ?_⟩
    obtain ⟨d', hd', rd⟩ := r.get (y xs (h _ st))
    rw [hd] at hd'
    cases hd'
    exact st.rep2 le le2 rd
theorem upto_get {lo hi : Int} {i : Nat} {d : PyData} (h : (upto lo hi)[i]? = some d) : i < (hi - lo).toNat ∧ d = .int (lo + (i : Nat)) := by
  unfold upto at h
  rw [List.getElem?_map] at h
  obtain ⟨k, hk, rfl⟩ := Option.map_eq_some_iff.mp h
  obtain ⟨h1, h2⟩ := List.getElem?_eq_some_iff.mp hk
  simp at h1 h2
  subst h2
  exact ⟨by omega, rfl⟩
theorem Walks.range {lo hi : Int} (hz : hi - lo ≤ 1000000) : Walks K Zs Zi (Itr lo (hi - lo).toNat) (upto lo hi) H0 where
  len := by
    have : (upto lo hi).length = (hi - lo).toNat := by unfold upto; simp
    rw [this, sizeLine_eq]
    omega
  stop := fun i H st hl => by
    have : (upto lo hi).length = (hi - lo).toNat := by unfold upto; simp
    rw [this] at hl
    exact hl
  item := fun i H d Zj le2 st tr hd => by
    obtain ⟨h1, rfl⟩ := upto_get hd
    refine ⟨h1, fun x H' y => ?_⟩
    obtain ⟨rfl, rfl⟩ := y
    exact ⟨Keeps.refl _, .int _⟩
theorem enumFrom_get : ∀ {xs : List PyData} {n i : Nat} {d : PyData}, (enumFrom n xs)[i]? = some d → ∃ x, xs[i]? = some x ∧ d = .tuple [.int ((n + i : Nat) : Int), x]
  | [], n, i, d, h => by simp [enumFrom] at h
  | x :: xs, n, 0, d, h => by simp [enumFrom] at h; exact ⟨x, rfl, h.symm⟩
  | x :: xs, n, i + 1, d, h => by
    have h : (enumFrom (n + 1) xs)[i]? = some d := by simpa [enumFrom] using h
    obtain ⟨y, h1, h2⟩ := enumFrom_get h
    exact ⟨y, by simpa using h1, by rw [h2, Nat.add_right_comm, Nat.add_assoc]⟩
theorem enumFrom_len : ∀ (xs : List PyData) (n : Nat), (enumFrom n xs).length = xs.length
  | [], _ => rfl
  | x :: xs, n => by simp [enumFrom, enumFrom_len xs (n + 1)]
theorem rep_pair {H : Hp} {T : Addr} {x y : V} {d e : PyData} (n : H T = none) (tr : ∀ a, Zi a → H a ≠ none) (r : Rep K H Zi x d) (q : Rep K H Zi y e) : Rep K (upd H T (.tup [x, y])) Zi (.ref T) (.tuple [d, e]) :=
  Rep.newT n tr (by show 2 ≤ sizeLine; decide) (.cons r (.cons q .nil))
theorem Walks.enum {a : Addr} {xs : List V} {ds : List PyData} (h : Still K Zs H0 (fun H xs => SqL K H a xs) xs) (le : ∀ b, Zs b → Zi b) (r : Reps K H0 Zi xs ds) (hz : xs.length ≤ sizeLine) : Walks K Zs Zi (Ite K a) (enumFrom 0 ds) H0 where
  len := by rw [enumFrom_len, ← r.length]; exact hz
  stop := fun i H st hl => ⟨xs, h H st, by rw [r.length]; rw [enumFrom_len] at hl; exact hl⟩
  item := fun i H d Zj le2 st tr hd => by
    obtain ⟨x, hx, rfl⟩ := enumFrom_get hd
    obtain ⟨v, hv, _⟩ := r.getD hx
    refine ⟨⟨xs, v, h H st, hv⟩, fun z H' y => ?_⟩
    obtain ⟨T, w, rfl, hT, rfl, y⟩ := y
    obtain ⟨d', hd', rd⟩ := r.get (y xs (h _ st))
    rw [hx] at hd'
    cases hd'
    rw [Nat.zero_add]
    exact ⟨Keeps.upd hT, rep_pair hT tr (.int _) (st.rep2 le le2 rd)⟩
theorem pairUp_get : ∀ {xs ys : List PyData} {i : Nat} {d : PyData}, (pairUp xs ys)[i]? = some d → ∃ x y, xs[i]? = some x ∧ ys[i]? = some y ∧ d = .tuple [x, y]
  | [], _, i, d, h => by simp [pairUp] at h
  | _ :: _, [], i, d, h => by simp [pairUp] at h
  | x :: xs, y :: ys, 0, d, h => by simp [pairUp] at h; exact ⟨x, y, rfl, rfl, h.symm⟩
  | x :: xs, y :: ys, i + 1, d, h => by
    have h : (pairUp xs ys)[i]? = some d := by simpa [pairUp] using h
    obtain ⟨a, b, h1, h2, h3⟩ := pairUp_get h
    exact ⟨a, b, by simpa using h1, by simpa using h2, h3⟩
theorem pairUp_len : ∀ (xs ys : List PyData), (pairUp xs ys).length = min xs.length ys.length
  | [], _ => by simp [pairUp]
  | _ :: _, [] => by simp [pairUp]
  | x :: xs, y :: ys => by simp [pairUp, pairUp_len xs ys, Nat.succ_min_succ]
theorem Walks.zipL {a b : Addr} {xs ys : List V} {ds es : List PyData} (h : Still K Zs H0 (fun H xs => SqL K H a xs) xs) (h' : Still K Zs H0 (fun H xs => SqL K H b xs) ys) (le : ∀ b, Zs b → Zi b) (r : Reps K H0 Zi xs ds) (q : Reps K H0 Zi ys es) (hz : xs.length ≤ sizeLine) :
    Walks K Zs Zi (Itz K a b) (pairUp ds es) H0 where
  len := by rw [pairUp_len, ← r.length]; omega
  stop := fun i H st hl => ⟨xs, ys, h H st, h' H st, by rw [r.length, q.length]; rw [pairUp_len] at hl; omega⟩
  item := fun i H d Zj le2 st tr hd => by
    obtain ⟨x, y, hx, hy, rfl⟩ := pairUp_get hd
    obtain ⟨v, hv, _⟩ := r.getD hx
    obtain ⟨w, hw, _⟩ := q.getD hy
    refine ⟨⟨xs, ys, v, w, h H st, h' H st, hv, hw⟩, fun z H' y => ?_⟩
    obtain ⟨T, x1, y1, rfl, hT, rfl, e1, e2⟩ := y
    obtain ⟨d', hd', rd⟩ := r.get (e1 xs (h _ st))
    obtain ⟨d2, hd2, rd2⟩ := q.get (e2 ys (h' _ st))
    rw [hx] at hd'; cases hd'
    rw [hy] at hd2; cases hd2
    exact ⟨Keeps.upd hT, rep_pair hT tr (st.rep2 le le2 rd) (st.rep2 le le2 rd2)⟩
theorem Walks.zipT {a b : Addr} {xs ys : List V} {ds es : List PyData} (h : Still K Zs H0 (fun H xs => SqT K H a xs) xs) (h' : Still K Zs H0 (fun H xs => SqT K H b xs) ys) (le : ∀ b, Zs b → Zi b) (r : Reps K H0 Zi xs ds) (q : Reps K H0 Zi ys es) (hz : xs.length ≤ sizeLine) :
    Walks K Zs Zi (RZ.ItzT K a b) (pairUp ds es) H0 where
  len := by rw [pairUp_len, ← r.length]; omega
  stop := fun i H st hl => ⟨xs, ys, h H st, h' H st, by rw [r.length, q.length]; rw [pairUp_len] at hl; omega⟩
  item := fun i H d Zj le2 st tr hd => by
    obtain ⟨x, y, hx, hy, rfl⟩ := pairUp_get hd
    obtain ⟨v, hv, _⟩ := r.getD hx
    obtain ⟨w, hw, _⟩ := q.getD hy
    refine ⟨⟨xs, ys, v, w, h H st, h' H st, hv, hw⟩, fun z H' y => ?_⟩
    obtain ⟨T, x1, y1, rfl, hT, rfl, e1, e2⟩ := y
    obtain ⟨d', hd', rd⟩ := r.get (e1 xs (h _ st))
    obtain ⟨d2, hd2, rd2⟩ := q.get (e2 ys (h' _ st))
    rw [hx] at hd'; cases hd'
    rw [hy] at hd2; cases hd2
    exact ⟨Keeps.upd hT, rep_pair hT tr (st.rep2 le le2 rd) (st.rep2 le le2 rd2)⟩
end
section
variable {g : Sg} {Eo : XK} {X : Cx} {al : Bool} {a b c tg e : Expr} {xa xb xc x : Ex} {pos : Pos}
/-- the value that an expression comes to is known ahead -/
theorem Post.known {XR : XRep} {Eo : XK} {hd hc : Addr} {H : Hp} {γ δ : Type} {m : M SV} {k : PyData → M γ} {s : Hand} {Rq : Hp → δ → γ → Prop} {Q : δ → Hp → Prop} (h : Post XR Eo hd hc H Rq Q (M.bnd (toD m) k s)) :
    (∃ d s1, m s = .ok (.d d) s1) ∨ (∃ c as s1, m s = .ex c as s1) := by
  unfold toD at h
  rw [bnd_assoc] at h
  unfold M.bnd at h
  cases e : m s with
  | ok x s1 =>
    cases x with
    | d p => exact .inl ⟨p, s1, rfl⟩
    | hand => rw [e] at h; exact h.elim
  | ex c as s1 => exact .inr ⟨c, as, s1, rfl⟩
  | bad => rw [e] at h; exact h.elim
theorem ji_ex (h : JE g Eo X false e x) : JI g Eo X false tg e (.ex x) := by
  refine ⟨fun pins s σ H R I ⟨F, Z0, hd, hc, ρ, hs, Rl, hp⟩ => ?_⟩
  have hp : Post g.XR Eo hd hc H (fun H' J ds => Walks X.K (Zf Z0 hd g.ms ρ σ) (Zf Z0 hd g.ms ρ σ) J ds H') R (M.bnd (toD (evE g.call x ρ)) (fun y => lift (seqD y)) hs) := hp
  have left : (∀ d s1, evE g.call x ρ hs = .ok (.d d) s1 → ∃ ds, d = .list ds) → iList X.K (tE g Eo X.K false x) σ H R := fun hl => ⟨F, Z0, hd, hc, ρ, hs, Rl, Post.bndD hp fun d s1 v H1 ev e1 h1 r1 hp1 => by
    obtain ⟨ds, rfl⟩ := hl d s1 ev
    have r1 : Rep X.K H1 (Zf Z0 hd g.ms ρ σ) v (.list ds) := r1
    obtain ⟨a, xs, rfl, st, rs, hz⟩ := r1.stillL
    exact ⟨a, rfl, ⟨xs, st _ (Stay.refl _ _)⟩, hp1 _ H1 (Ext.refl _ _) h1 (Walks.list st (fun _ z => z) rs hz)⟩⟩
  rcases hp.known with ⟨d, s1, ev⟩ | ⟨cc, as, s1, ev⟩
  · cases d with
    | list ds => exact (pi_list h).run pins s σ H R I (left fun d' s' e' => by rw [ev] at e'; cases e'; exact ⟨_, rfl⟩)
    | tuple ds =>
      refine (pi_tup h).run pins s σ H R I ⟨F, Z0, hd, hc, ρ, hs, Rl, Post.bndD hp fun d s1 v H1 ev' e1 h1 r1 hp1 => ?_⟩
      rw [ev] at ev'
      cases ev'
      have r1 : Rep X.K H1 (Zf Z0 hd g.ms ρ σ) v (.tuple ds) := r1
      obtain ⟨a, xs, rfl, st, rs, hz⟩ := r1.stillT
      exact ⟨a, rfl, ⟨xs, st _ (Stay.refl _ _)⟩, hp1 _ H1 (Ext.refl _ _) h1 (Walks.tup st (fun _ z => z) rs hz)⟩
    | _ =>
      rw [show M.bnd (toD (evE g.call x ρ)) (fun y => lift (seqD y)) hs = Wv.R.bad from by unfold toD; rw [bnd_assoc]; unfold M.bnd; rw [ev]; rfl] at hp
      exact hp.elim
  · exact (pi_list h).run pins s σ H R I (left fun d' s' e' => by rw [ev] at e'; cases e')
/-- a list that the frame owns: its items may be kept, it itself may not change -/
theorem ji_own {n : Nat} {y : Str} {p : Pos} (hN : X.N[n]? = some y) (hv : Vis X.env.scope y) (hdb : (y == ("__debug__" : Str)) = false) (hcd : (y == ("__classdict__" : Str)) = false) (hn : n ∈ g.ms) : JI g Eo X true tg (.Name y p) (.ex (.v n)) := by
  refine ⟨fun pins s σ H R I ⟨F, Z0, hd, hc, ρ, hs, Rl, hp⟩ => (pi_list (pe_var hN hv hdb hcd)).run pins s σ H R I ?_⟩
  have hp : Post g.XR Eo hd hc H (fun H' J ds => Walks X.K (Zb Z0 hd) (Zf Z0 hd g.ms ρ σ) J ds H') R (M.bnd (toD (match ρ[n]? with | some (some x) => M.ret x | _ => bad)) (fun y => lift (seqD y)) hs) := hp
  cases e : ρ[n]? with
  | none => rw [e] at hp; exact hp.elim
  | some o =>
    cases o with
    | none => rw [e] at hp; exact hp.elim
    | some y =>
      rw [e] at hp
      obtain ⟨v, hv, ⟨l, xs, ds, rfl, rfl, h1, h2, h3, h4, h5, h6, h7⟩⟩ := Rl.own n y hn e
      exact ⟨_, hv, l, rfl, ⟨xs, SqL.of h1⟩, hp _ H (Ext.refl _ _) Rl.hand (Walks.list (fun H st => SqL.of (st l _ h1 fun z => z.elim h5 h6)) (fun _ z => Zb.le z) h3 h2)⟩
theorem ji_range1 {p : Pos} (hg : Gl X "range") (hm : X.mg "range" = none) (hs : isStar a = false) (ha : JD g Eo X true [a] [xa]) : JI g Eo X false tg (.Call (.Name "range" p) [a] [] pos) (.range [xa]) := by
  refine ⟨fun pins s σ H R I ⟨F, Z0, hd, hc, ρ, hs', Rl, hp⟩ => (pi_range1 hg hm ha (by rw [star_eq hs]; rfl)).run pins s σ H R I ⟨F, Z0, hd, hc, ρ, hs', Rl, Post.bnd (k := fun ds => lift (rangeD ds)) hp fun ds s1 vs H1 ev e1 h1 r1 hp1 => ?_⟩⟩
  have hl := evDs_len ev
  cases hx : rangeD ds with
  | none => rw [hx] at hp1; exact hp1.elim
  | some xs =>
    rw [hx] at hp1
    unfold rangeD at hx
    split at hx
    · split at hx
      · rename_i j hz
        cases hx
        simp only [small62, Bool.and_eq_true, decide_eq_true_eq] at hz
        obtain ⟨v, rfl, r2⟩ := reps1 r1
        refine ⟨j, by rw [rep_int r2], hz.1.1, hz.1.2, hp1 _ H1 (Ext.refl _ _) h1 ?_⟩
        have := Walks.range (K := X.K) (Zs := Zf Z0 hd g.ms ρ σ) (Zi := Zf Z0 hd g.ms ρ σ) (H0 := H1) (lo := 0) (hi := j) (by omega)
        rw [Int.sub_zero] at this
        exact this
      · cases hx
    · simp at hl
    · cases hx
theorem ji_range2 {p : Pos} (hg : Gl X "range") (hm : X.mg "range" = none) (hs : isStar a = false) (hs2 : isStar b = false) (ha : JD g Eo X true [a, b] [xa, xb]) : JI g Eo X false tg (.Call (.Name "range" p) [a, b] [] pos) (.range [xa, xb]) := by
  refine ⟨fun pins s σ H R I ⟨F, Z0, hd, hc, ρ, hs', Rl, hp⟩ => (pi_range2 hg hm ha (by rw [star_eq hs, star_eq hs2]; rfl) (by rw [star_eq hs2]; rfl)).run pins s σ H R I ⟨F, Z0, hd, hc, ρ, hs', Rl, Post.bnd (k := fun ds => lift (rangeD ds)) hp fun ds s1 vs H1 ev e1 h1 r1 hp1 => ?_⟩⟩
  have hl := evDs_len ev
  cases hx : rangeD ds with
  | none => rw [hx] at hp1; exact hp1.elim
  | some xs =>
    rw [hx] at hp1
    unfold rangeD at hx
    split at hx
    · simp at hl
    · split at hx
      · rename_i i j hz
        cases hx
        simp only [small62, Bool.and_eq_true, decide_eq_true_eq] at hz
        obtain ⟨v, w, rfl, r2, r3⟩ := reps2 r1
        exact ⟨i, j, by rw [rep_int r2, rep_int r3], ⟨hz.1.1.1, hz.1.1.2, hz.1.2.1, hz.1.2.2⟩, hp1 _ H1 (Ext.refl _ _) h1 (Walks.range (by omega))⟩
      · cases hx
    · cases hx
theorem ji_enum {p tpos : Pos} {elts : List Expr} {kk : Nat} (hg : Gl X "enumerate") (hm : X.mg "enumerate" = none) (hs : isStar a = false) (ha : JE g Eo X false a xa) : JI g Eo X false (.Tuple elts kk tpos) (.Call (.Name "enumerate" p) [a] [] pos) (.enum xa) := by
  have hpa : PA X [a] (tCons (tE g Eo X.K false xa) tNil) := pa_cons ha pa_nil (star_eq hs _ _)
  refine ⟨fun pins s σ H R I ⟨F, Z0, hd, hc, ρ, hs', Rl, hp⟩ => (pi_enum hg hm hpa (by rw [star_eq hs]; rfl)).run pins s σ H R I ⟨F, Z0, hd, hc, ρ, hs', Rl, Post.bndD (k := fun y => lift (enumD y)) hp fun d s1 v H1 ev e1 h1 r1 hp1 => ?_⟩⟩
  cases d with
  | list ds =>
    have r1 : Rep X.K H1 (Zf Z0 hd g.ms ρ σ) v (.list ds) := r1
    obtain ⟨l, xs, rfl, st, rs, hz⟩ := r1.stillL
    exact ⟨l, xs, rfl, st _ (Stay.refl _ _), hp1 _ H1 (Ext.refl _ _) h1 (Walks.enum st (fun _ z => z) rs hz)⟩
  | _ => exact hp1.elim
theorem ji_zip {p tpos : Pos} {elts : List Expr} {kk : Nat} (hg : Gl X "zip") (hm : X.mg "zip" = none) (hs : isStar a = false) (hs2 : isStar b = false) (ha : JE g Eo X false a xa) (hb : JE g Eo X false b xb) :
    JI g Eo X false (.Tuple elts kk tpos) (.Call (.Name "zip" p) [a, b] [] pos) (.zip xa xb) := by
  have hpa : PA X [a, b] (tCons (tE g Eo X.K false xa) (tCons (tE g Eo X.K false xb) tNil)) := pa_cons ha (pa_cons hb pa_nil (star_eq hs2 _ _)) (star_eq hs _ _)
  refine ⟨fun pins s σ H R I ⟨F, Z0, hd, hc, ρ, hs', Rl, hp⟩ => (RZ.pi_zipA hg hm hpa (star_eq hs _ _) (star_none (fun e he => by simp at he; subst he; exact hs2) pos X.env)).run pins s σ H R I ⟨F, Z0, hd, hc, ρ, hs', Rl, Post.bndD (k := fun x => M.bnd (toD (evE g.call xb ρ)) fun y => lift (zipD x y)) hp fun d s1 v H1 ev e1 h1 r1 hp1 => ?_⟩⟩
  refine ⟨F, Z0, hd, hc, ρ, s1, Rl.step e1 h1, Post.bndD hp1 fun d2 s2 w H2 ev2 e2 h2 r2 hp2 => ?_⟩
  have r1 : Rep X.K H2 (Zf Z0 hd g.ms ρ σ) v d := Rep.mono e2 Zf.has r1
  have r2 : Rep X.K H2 (Zf Z0 hd g.ms ρ σ) w d2 := r2
  cases hx : zipD d d2 with
  | none => rw [hx] at hp2; exact hp2.elim
  | some xs =>
    rw [hx] at hp2
    unfold zipD at hx
    split at hx
    · cases hx
      obtain ⟨l, ys, rfl, st, rs, hz⟩ := r1.stillL
      obtain ⟨l2, ys2, rfl, st2, rs2, hz2⟩ := r2.stillL
      exact ⟨l, l2, ys, ys2, rfl, .inl ⟨st _ (Stay.refl _ _), st2 _ (Stay.refl _ _), hp2 _ H2 (Ext.refl _ _) h2 (Walks.zipL st st2 (fun _ z => z) rs rs2 hz)⟩⟩
    · cases hx
      obtain ⟨l, ys, rfl, st, rs, hz⟩ := r1.stillT
      obtain ⟨l2, ys2, rfl, st2, rs2, hz2⟩ := r2.stillT
      exact ⟨l, l2, ys, ys2, rfl, .inr ⟨st _ (Stay.refl _ _), st2 _ (Stay.refl _ _), hp2 _ H2 (Ext.refl _ _) h2 (Walks.zipT st st2 (fun _ z => z) rs rs2 hz)⟩⟩
    · cases hx
/-! ### comprehensions -/
def tCd (g : Sg) (Eo : XK) (K : PySem.W.Frag) : Option Ex → TT
  | none => tYes
  | some c => tT g Eo K c
mutual
theorem bindL_ix : ∀ (t : Tgt) (d : PyData) (l : List (Nat × PyData)), bindL t d = some l → ∀ p ∈ l, p.1 ∈ tgIx t
  | .one i, d, l, h, p, hp => by
    have h : some [(i, d)] = some l := h
    cases h
    simp at hp
    subst hp
    simp [tgIx]
  | .tup ts, d, l, h, p, hp => by
    cases d with
    | tuple ds => exact bindLs_ix ts ds l h p hp
    | _ => cases h
theorem bindLs_ix : ∀ (ts : List Tgt) (ds : List PyData) (l : List (Nat × PyData)), bindLs ts ds = some l → ∀ p ∈ l, p.1 ∈ tgIxs ts
  | [], ds, l, h, p, hp => by
    cases ds with
    | nil => have h : some [] = some l := h; cases h; cases hp
    | cons _ _ => cases h
  | t :: ts, ds, l, h, p, hp => by
    cases ds with
    | nil => cases h
    | cons d ds =>
      have h : (match bindL t d with | some l => (bindLs ts ds).map (l ++ ·) | none => none) = some l := h
      cases e : bindL t d with
      | none => rw [e] at h; cases h
      | some l1 =>
        rw [e] at h
        obtain ⟨l2, e2, rfl⟩ := Option.map_eq_some_iff.mp h
        rcases List.mem_append.mp hp with q | q
        · exact List.mem_append_left _ (bindL_ix t d l1 e p q)
        · exact List.mem_append_right _ (bindLs_ix ts ds l2 e2 p q)
end
/-- one turn's meaning -/
def turnM (call : Nat → List SV → M SV) (tg : Tgt) (own : List Nat) (cd : Option Ex) (e : Ex) (ρ : Env) (x : PyData) : M (Option PyData) :=
  M.bnd (lift (bindT tg x (wipeE ρ own))) fun ρ1 => M.bnd (evC call cd ρ1) fun t => if t then M.bnd (toD (evE call e ρ1)) fun y => M.ret (some y) else M.ret none
theorem noEx_ok {α : Type} {m : M α} {s s' : Hand} {a : α} (h : noEx m s = .ok a s') : m s = .ok a s' := by
  unfold noEx at h
  split at h
  · cases h
  · exact h
theorem bnd_inv {α β : Type} {m : M α} {k : α → M β} {s s' : Hand} {b : β} (h : M.bnd m k s = .ok b s') : ∃ a s1, m s = .ok a s1 ∧ k a s1 = .ok b s' := by
  unfold M.bnd at h
  cases e : m s with
  | ok a s1 => rw [e] at h; exact ⟨a, s1, rfl, h⟩
  | ex c as s1 => rw [e] at h; cases h
  | bad => rw [e] at h; cases h
theorem lift_inv {α : Type} {o : Option α} {s s' : Hand} {a : α} (h : lift o s = .ok a s') : o = some a ∧ s' = s := by
  cases o with
  | none => cases h
  | some b => cases h; exact ⟨rfl, rfl⟩
theorem toD_inv {m : M SV} {s s' : Hand} {d : PyData} (h : toD m s = .ok d s') : m s = .ok (.d d) s' := by
  obtain ⟨x, s1, h1, h2⟩ := bnd_inv h
  cases x with
  | d p => cases h2; exact h1
  | hand => cases h2
def optL : Option PyData → List PyData
  | some y => [y]
  | none => []
theorem compL_cons (f : PyData → M (Option PyData)) (x : PyData) (xs : List PyData) : compL f (x :: xs) = M.bnd (f x) fun o => M.bnd (compL f xs) fun r => M.ret (match o with | some y => y :: r | none => r) := rfl
theorem compL_inv {f : PyData → M (Option PyData)} {x : PyData} {xs zs : List PyData} {s s' : Hand} (h : compL f (x :: xs) s = .ok zs s') : ∃ o s1 r, f x s = .ok o s1 ∧ compL f xs s1 = .ok r s' ∧ zs = optL o ++ r := by
  rw [compL_cons] at h
  obtain ⟨o, s1, h1, h2⟩ := bnd_inv h
  obtain ⟨r, s2, h3, h4⟩ := bnd_inv h2
  refine ⟨o, s1, r, h1, ?_⟩
  cases o <;> (cases h4; exact ⟨h3, rfl⟩)
theorem compF_inv {f : PyData → M (List PyData)} {x : PyData} {xs zs : List PyData} {s s' : Hand} (h : compF f (x :: xs) s = .ok zs s') : ∃ o s1 r, f x s = .ok o s1 ∧ compF f xs s1 = .ok r s' ∧ zs = o ++ r := by
  obtain ⟨o, s1, h1, h2⟩ := bnd_inv (k := fun zs => M.bnd (compF f xs) fun r => M.ret (zs ++ r)) h
  obtain ⟨r, s2, h3, h4⟩ := bnd_inv h2
  cases h4
  exact ⟨o, s1, r, h1, h3, rfl⟩
theorem noEx_ex {α : Type} (m : M α) (s s' : Hand) (c : Nat) (as : List PyData) : noEx m s ≠ .ex c as s' := by
  unfold noEx
  split
  · exact fun z => nomatch z
  · rename_i h; exact fun z => h _ _ _ z
theorem compL_ex {f : PyData → M (Option PyData)} (hf : ∀ x s c as s', f x s ≠ .ex c as s') : ∀ (xs : List PyData) (s s' : Hand) (c : Nat) (as : List PyData), compL f xs s ≠ .ex c as s'
  | [], s, s', c, as => fun z => nomatch z
  | x :: xs, s, s', c, as => fun z => by
    have z : M.bnd (f x) (fun o => M.bnd (compL f xs) fun r => M.ret (match o with | some y => y :: r | none => r)) s = .ex c as s' := z
    unfold M.bnd at z
    cases e : f x s with
    | ok o s1 =>
      rw [e] at z
      simp only at z
      cases e2 : compL f xs s1 with
      | ok r s2 => rw [e2] at z; cases z
      | ex c as s2 => exact compL_ex hf xs _ _ _ _ e2
      | bad => rw [e2] at z; cases z
    | ex c as s1 => exact hf _ _ _ _ _ e
    | bad => rw [e] at z; cases z
theorem compF_ex {f : PyData → M (List PyData)} (hf : ∀ x s c as s', f x s ≠ .ex c as s') : ∀ (xs : List PyData) (s s' : Hand) (c : Nat) (as : List PyData), compF f xs s ≠ .ex c as s'
  | [], s, s', c, as => fun z => nomatch z
  | x :: xs, s, s', c, as => fun z => by
    have z : M.bnd (f x) (fun zs => M.bnd (compF f xs) fun r => M.ret (zs ++ r)) s = .ex c as s' := z
    unfold M.bnd at z
    cases e : f x s with
    | ok o s1 =>
      rw [e] at z
      simp only at z
      cases e2 : compF f xs s1 with
      | ok r s2 => rw [e2] at z; cases z
      | ex c as s2 => exact compF_ex hf xs _ _ _ _ e2
      | bad => rw [e2] at z; cases z
    | ex c as s1 => exact hf _ _ _ _ _ e
    | bad => rw [e] at z; cases z
/-- all but the hand's list and D stays -/
def Ext2 (hd D : Addr) (H H' : Hp) : Prop := ∀ b o, H b = some o → b ≠ hd → b ≠ D → H' b = some o
theorem Ext.ext2 {hd D : Addr} {H H' : Hp} (e : Ext hd H H') : Ext2 hd D H H' := fun b o h n _ => e b o h n
theorem Ext2.trans {hd D : Addr} {H H1 H2 : Hp} (a : Ext2 hd D H H1) (b : Ext2 hd D H1 H2) : Ext2 hd D H H2 := fun c o h n m => b c o (a c o h n m) n m
theorem Ext2.refl {hd D : Addr} {H : Hp} : Ext2 hd D H H := fun _ _ h _ _ => h
theorem Ext2.upd {hd D : Addr} {H : Hp} {o : HO} : Ext2 hd D H (upd H D o) := fun b u e _ n => by rw [upd_ne n]; exact e
theorem Ext2.stay {hd D : Addr} {H H' : Hp} {Z : Addr → Prop} (e : Ext2 hd D H H') (h1 : Z hd) (h2 : Z D ∨ H D = none) : Stay Z H H' := fun b o hb n => e b o hb (fun z => n (z ▸ h1)) fun z => by
  rcases h2 with h2 | h2
  · exact n (z ▸ h2)
  · rw [z, h2] at hb; cases hb
/-- a block's walk that appends to the list at D -/
theorem loop1 {K : PySem.W.Frag} {F Hw H1 : Hp} {Z0 Zs Zi : Addr → Prop} {hd hca D : Addr} {ρ : Env} {s1 s2 : Hand} {σ : L2.St} {acc0 : List V} {accD0 ds zs : List PyData} {J : L2.It} {tgt : Tgt} {cd : Option Ex} {vs : List Nat} {Nx : Hp → Prop}
    (hms : ∀ i ∈ vs, i ∉ g.ms) (hix : ∀ i ∈ tgIx tgt, i ∈ vs) (hZD : Z0 D) (FD : F D = none) (nDh : D ≠ hd) (R1 : Rel K F Z0 hd hca g.ms ρ s1 σ H1) (hD : H1 D = some (.lst acc0)) (rs0 : Reps K H1 (Zal al Z0 hd g.ms ρ σ) acc0 accD0)
    (wk : Walks K Zs Zi J ds Hw) (hz1 : Zs hd) (hz2 : Zs D ∨ Hw D = none) (e0 : Ext2 hd D Hw H1) (le2 : ∀ a, Zf Z0 hd g.ms ρ σ a → Zi a ∨ Hw a = none)
    (res : compL (fun y => noEx (turnM g.call tgt vs cd x ρ y)) ds s1 = .ok zs s2) (hlen : accD0.length + zs.length ≤ sizeLine)
    (hN : ∀ H' acc, Ext2 hd D H1 H' → Rel K F Z0 hd hca g.ms ρ s2 σ H' → H' D = some (.lst acc) → Reps K H' (Zal al Z0 hd g.ms ρ σ) acc (accD0 ++ zs) → Nx H') :
    ∃ W : Nat → Nat → Hp → Prop, (∃ m, W 0 m H1) ∧ ∀ i m H, W i m H → (J.stop i H ∧ Nx H) ∨ (J.go i H ∧ ∃ N1 : Hp → Prop, (∀ H', N1 H' → ∃ m', m' < m ∧ W (i + 1) m' H') ∧ ∀ v H', J.yld i H v H' → tG K tgt v (wipe σ vs) H' fun σ2 H2 => wipe σ2 vs = wipe σ vs ∧ tCd g E0 K cd σ2 H2 fun b H3 =>
      if b = true then tE g E0 K al x σ2 H3 fun y H4 => ∃ acc, H4 D = some (.lst acc) ∧ acc.length < sizeLine ∧ N1 (upd H4 D (.lst (acc ++ [y]))) else N1 H3) := by
  generalize hf : (fun y => noEx (turnM g.call tgt vs cd x ρ y)) = f at *
  refine ⟨fun i m H' => m = ds.length - i ∧ i ≤ ds.length ∧ ∃ s' acc accD zs', Ext2 hd D H1 H' ∧ Rel K F Z0 hd hca g.ms ρ s' σ H' ∧ H' D = some (.lst acc) ∧ Reps K H' (Zal al Z0 hd g.ms ρ σ) acc accD ∧
      compL f (ds.drop i) s' = .ok zs' s2 ∧ accD ++ zs' = accD0 ++ zs, ⟨ds.length, by simp, Nat.zero_le _, s1, acc0, accD0, zs, Ext2.refl, R1, hD, rs0, by simpa using res, rfl⟩, ?_⟩
  rintro i m H' ⟨rfl, hi', s', acc, accD, zs', ex, Ri, hDi, rs, heq, hz⟩
  have stay : Stay Zs Hw H' := (e0.trans ex).stay hz1 hz2
  by_cases hlt : i < ds.length
  · refine .inr ?_
    have hd' : ds[i]? = some ds[i] := List.getElem?_eq_getElem hlt
    generalize ds[i] = d at hd'
    have hdrop : ds.drop i = d :: ds.drop (i + 1) := by
      rw [List.drop_eq_getElem_cons hlt]
      rw [List.getElem?_eq_getElem hlt] at hd'
      rw [Option.some.inj hd']
    obtain ⟨go, yl⟩ := wk.item i H' d (Zf Z0 hd g.ms ρ σ) le2 stay Ri.trf hd'
    rw [hdrop] at heq
    obtain ⟨o, s3, r, hf2, heq2, hzr⟩ := compL_inv heq
    have hin : turnM g.call tgt vs cd x ρ d s' = .ok o s3 := by
      rw [← hf] at hf2
      exact noEx_ok hf2
    obtain ⟨ρ1, s4, hb1, hin⟩ := bnd_inv hin
    obtain ⟨hb2, e3⟩ := lift_inv hb1
    subst e3
    obtain ⟨l, hl, e4⟩ := Option.map_eq_some_iff.mp hb2
    subst e4
    obtain ⟨t, s5, hcd, hin⟩ := bnd_inv hin
    have lix : ∀ p ∈ l, p.1 ∈ vs := fun p hp => hix _ (bindL_ix tgt d l hl p hp)
    refine ⟨go, fun H'' => ∃ s'' acc' accD' zs'', Ext2 hd D H1 H'' ∧ Rel K F Z0 hd hca g.ms ρ s'' σ H'' ∧ H'' D = some (.lst acc') ∧ Reps K H'' (Zal al Z0 hd g.ms ρ σ) acc' accD' ∧
      compL f (ds.drop (i + 1)) s'' = .ok zs'' s2 ∧ accD' ++ zs'' = accD0 ++ zs, fun H'' n => ⟨ds.length - (i + 1), by omega, rfl, hlt, n⟩, fun v Hy y => ?_⟩
    obtain ⟨kp, rv⟩ := yl v Hy y
    have Ry := Ri.step kp.ext (Ri.hand.keeps kp)
    have Rw := Ry.wipe (vs := vs) hms
    have same : ∀ j ∈ g.ms, ρ[j]? = (wipeE ρ vs)[j]? ∧ σ[j]? = (wipe σ vs)[j]? := fun j hj => by
      have : j ∉ vs := fun e => hms j e hj
      rw [wipeE_get this, wipe_get this]; exact ⟨rfl, rfl⟩
    refine tG_ok tgt d v l (wipe σ vs) _ hl rv fun l' pr => ?_
    have pix := pr.ix
    have lix' : ∀ p ∈ l', p.1 ∈ vs := fun p hp => by
      have : p.1 ∈ l.map (·.1) := by rw [← pix]; exact List.mem_map_of_mem hp
      obtain ⟨q, hq, e⟩ := List.mem_map.mp this
      rw [← e]; exact lix q hq
    have pr' : Prs K Hy (Zf Z0 hd g.ms (wipeE ρ vs) (wipe σ vs)) l' l := by
      have : ∀ {l' : List (Nat × V)} {l : List (Nat × PyData)}, Prs K Hy (Zf Z0 hd g.ms ρ σ) l' l → Prs K Hy (Zf Z0 hd g.ms (wipeE ρ vs) (wipe σ vs)) l' l := by
        intro l' l p
        induction p with
        | nil => exact .nil
        | cons r _ ih => exact .cons (r.less fun a z => Zf.same (same_symm same) z) ih
      exact this pr
    have Rb := Rw.setAll pr' fun p hp => hms _ (lix p hp)
    have same2 : ∀ j ∈ g.ms, ρ[j]? = (setAll (wipeE ρ vs) l)[j]? ∧ σ[j]? = (setV (wipe σ vs) l')[j]? := fun j hj => by
      have : j ∉ vs := fun e => hms j e hj
      rw [setAll_get fun p hp e => this (by rw [← e]; exact lix p hp), setV_get fun p hp e => this (by rw [← e]; exact lix' p hp)]
      exact same j hj
    refine ⟨wipe_back lix', ?_⟩
    have fin : ∀ (b : Bool) (Hb : Hp), Ext hd Hy Hb → HandAt Hb hd hca s5 → b = t → (if b = true then tE g E0 K al x (setV (wipe σ vs) l') Hb (fun y H4 => ∃ acc, H4 D = some (.lst acc) ∧ acc.length < sizeLine ∧
        (∃ s'' acc' accD' zs'', Ext2 hd D H1 (upd H4 D (.lst (acc ++ [y]))) ∧ Rel K F Z0 hd hca g.ms ρ s'' σ (upd H4 D (.lst (acc ++ [y]))) ∧ (upd H4 D (.lst (acc ++ [y]))) D = some (.lst acc') ∧ Reps K (upd H4 D (.lst (acc ++ [y]))) (Zal al Z0 hd g.ms ρ σ) acc' accD' ∧
          compL f (ds.drop (i + 1)) s'' = .ok zs'' s2 ∧ accD' ++ zs'' = accD0 ++ zs))
        else (∃ s'' acc' accD' zs'', Ext2 hd D H1 Hb ∧ Rel K F Z0 hd hca g.ms ρ s'' σ Hb ∧ Hb D = some (.lst acc') ∧ Reps K Hb (Zal al Z0 hd g.ms ρ σ) acc' accD' ∧ compL f (ds.drop (i + 1)) s'' = .ok zs'' s2 ∧ accD' ++ zs'' = accD0 ++ zs)) := by
      intro b Hb eb hb' hbt
      subst hbt
      have DHb : Hb D = some (.lst acc) := eb _ _ (kp _ _ hDi) nDh
      cases b with
      | false =>
        rw [if_neg Bool.false_ne_true]
        rw [if_neg Bool.false_ne_true] at hin
        cases hin
        exact ⟨s3, acc, accD, r, (ex.trans kp.ext.ext2).trans eb.ext2, Ry.step eb hb', DHb, (rs.keeps kp).mono eb (Zal.has al), heq2, by rw [← hz, hzr]; rfl⟩
      | true =>
        rw [if_pos rfl]
        rw [if_pos rfl] at hin
        obtain ⟨y, s6, hy, hin⟩ := bnd_inv hin
        cases hin
        have hy := toD_inv hy
        have hz3 : accD ++ (y :: r) = accD0 ++ zs := by rw [← hz, hzr]; rfl
        refine ⟨F, Z0, hd, hca, setAll (wipeE ρ vs) l, s5, Rb.step eb hb', ?_⟩
        rw [hy]
        intro w H4 e4 h4 r4
        have r4 : Rep K H4 (Zal al Z0 hd g.ms (setAll (wipeE ρ vs) l) (setV (wipe σ vs) l')) w y := r4
        have DH4 : H4 D = some (.lst acc) := e4 _ _ DHb nDh
        have R4 := (Ry.step eb hb').step e4 h4
        have rs4 := ((rs.keeps kp).mono eb (Zal.has al)).mono e4 (Zal.has al)
        have zD : Zal al Z0 hd g.ms ρ σ D := Zal.b (.inl hZD)
        have hl3 : accD.length + (r.length + 1) = accD0.length + zs.length := by
          have := congrArg List.length hz3
          simpa using this
        refine ⟨acc, DH4, by rw [rs.length]; omega, s3, acc ++ [w], accD ++ [y], r, ((ex.trans kp.ext.ext2).trans eb.ext2).trans (e4.ext2.trans Ext2.upd), R4.write hZD FD nDh, upd_same, ?_, heq2, by rw [List.append_assoc]; exact hz3⟩
        have rw4 := rs4.append (.cons (r4.less fun a z => Zal.same same2 z) .nil)
        refine rw4.move (fun b o e n => ?_) (fun _ _ n => n)
        have hbD : b ≠ D := fun q => n (by rw [q]; exact zD)
        rw [upd_ne hbD]
        exact e
    cases cd with
    | none =>
      cases hcd
      exact fin true Hy (Ext.refl _ _) (Ri.hand.keeps kp) rfl
    | some c =>
      refine ⟨F, Z0, hd, hca, setAll (wipeE ρ vs) l, s4, Rb, ?_⟩
      have hcd : M.bnd (evE g.call c (setAll (wipeE ρ vs) l)) tru s4 = .ok t s5 := hcd
      rw [hcd]
      exact fun b Hb eb hb' hbt => fin b Hb eb hb' hbt
  · have e : i = ds.length := by omega
    subst e
    refine .inl ⟨wk.stop _ _ stay (Nat.le_refl _), ?_⟩
    rw [List.drop_length] at heq
    cases heq
    rw [List.append_nil] at hz
    subst hz
    exact hN H' acc ex Ri hDi rs
theorem je_comp {iter tge : Expr} {ow : Bool} {vs : List Nat} {tgt : Tgt} {it : It} {cd : Option Ex} (hix : ∀ i ∈ tgIx tgt, i ∈ vs) (hms : ∀ i ∈ vs, i ∉ g.ms) :
    (∀ σ H Q, tE g Eo X.K al (.comp tgt vs it cd x) σ H Q → tLc (tI g Eo X.K ow it) (tG X.K tgt) (tCd g E0 X.K cd) (tE g E0 X.K al x) vs σ H Q) := by
  intro σ H Q ⟨F, Z0, hd, hca, ρ, s, R, hp⟩
  have hp : Post g.XR Eo hd hca H (fun H' v y => RepS X.K H' (Zal al Z0 hd g.ms ρ σ) hd v y) Q (M.bnd (evI g.call it ρ) (fun xs => M.bnd (compL (fun y => noEx (turnM g.call tgt vs cd x ρ y)) xs) fun ys => M.ret (SV.d (.list ys))) s) := hp
  refine ⟨F, Z0, hd, hca, ρ, s, R, Post.bnd hp fun ds s1 J H1 _ e1 h1 wk hp1 => ?_⟩
  have R1 := R.step e1 h1
  intro D hD
  have nDh : D ≠ hd := fun e => by have := h1.at_; rw [← e, hD] at this; cases this
  have FD : F D = none := by
    cases q : F D with
    | none => rfl
    | some o => have := R1.ext D o q nDh; rw [hD] at this; cases this
  have R2 : Rel X.K F (fun a => Z0 a ∨ a = D) hd hca g.ms ρ s1 σ (upd H1 D (.lst [])) := R1.addZ hD
  have nx : ∀ y s c as s', (fun y => noEx (turnM g.call tgt vs cd x ρ y)) y s ≠ .ex c as s' := fun y s c as s' => noEx_ex _ _ _ _ _
  cases res : compL (fun y => noEx (turnM g.call tgt vs cd x ρ y)) ds s1 with
  | ex c as s2 => exact (compL_ex nx _ _ _ _ _ res).elim
  | bad => unfold M.bnd at hp1; rw [res] at hp1; exact hp1.elim
  | ok zs s2 =>
    unfold M.bnd at hp1
    rw [res] at hp1
    have hle : zs.length ≤ ds.length := by
      have : ∀ (l zs : List PyData) (s s' : Hand), compL (fun y => noEx (turnM g.call tgt vs cd x ρ y)) l s = .ok zs s' → zs.length ≤ l.length := by
        intro l
        induction l with
        | nil => intro zs s s' h; cases h; exact Nat.le_refl _
        | cons a l ih =>
          intro zs s s' h
          obtain ⟨o, s1, r, h1, h2, rfl⟩ := compL_inv h
          have := ih _ _ _ h2
          cases o <;> simp [optL] <;> omega
      exact this _ _ _ _ res
    refine loop1 (al := al) (x := x) (cd := cd) (acc0 := []) (accD0 := []) hms hix (.inr rfl) FD nDh R2 upd_same .nil wk (Zal.has ow) (.inr hD) (Ext.upd hD).ext2 (fun a z => ?_) res (by simp; exact Nat.le_trans hle wk.len) fun H' acc ex R' hD' rs => ?_
    · rcases z with (z | z) | z
      · exact .inl (.inl z)
      · exact .inr (by rw [z]; exact hD)
      · exact .inl (.inr z)
    · refine hp1 (.ref D) H' (fun b o e n => ?_) R'.hand (.lst hD' (fun z => R1.trf D z.le hD) ?_ (rs.less fun a z => ?_))
      · exact ex b o (by rw [upd_ne (ne_of_none e hD)]; exact e) n (ne_of_none e hD)
      · rw [rs.length]; exact Nat.le_trans hle wk.len
      · cases al
        · exact z.imp .inl id
        · exact z.imp .inl id
/-- the outer turn's meaning -/
def turnF (call : Nat → List SV → M SV) (tg : Tgt) (own : List Nat) (cd : Option Ex) (tg1 : Tgt) (own1 : List Nat) (it1 : It) (cd1 : Option Ex) (e : Ex) (ρ : Env) (x : PyData) : M (List PyData) :=
  M.bnd (lift (bindT tg x (wipeE ρ own))) fun ρ1 => M.bnd (evC call cd ρ1) fun t => if t then M.bnd (evI call it1 ρ1) fun ys => compL (fun y => noEx (turnM call tg1 own1 cd1 e ρ1 y)) ys else M.ret []
theorem je_comp2 {ow : Bool} {vs vs1 : List Nat} {tgt tgt1 : Tgt} {it it1 : It} {cd cd1 : Option Ex} (hix : ∀ i ∈ tgIx tgt, i ∈ vs) (hms : ∀ i ∈ vs, i ∉ g.ms) (hix1 : ∀ i ∈ tgIx tgt1, i ∈ vs1) (hms1 : ∀ i ∈ vs1, i ∉ g.ms) :
    (∀ σ H Q, tE g Eo X.K al (.comp2 tgt vs it cd tgt1 vs1 it1 cd1 x) σ H Q → tLc2 (tI g Eo X.K ow it) (tG X.K tgt) (tCd g E0 X.K cd) (tI g E0 X.K false it1) (tG X.K tgt1) (tCd g E0 X.K cd1) (tE g E0 X.K al x) vs vs1 σ H Q) := by
  intro σ H Q ⟨F, Z0, hd, hca, ρ, s, R, hp⟩
  have hp : Post g.XR Eo hd hca H (fun H' v y => RepS X.K H' (Zal al Z0 hd g.ms ρ σ) hd v y) Q (M.bnd (evI g.call it ρ) (fun xs => M.bnd (compF (fun y => noEx (turnF g.call tgt vs cd tgt1 vs1 it1 cd1 x ρ y)) xs) fun ys => if ys.length ≤ sizeLine then M.ret (SV.d (.list ys)) else bad) s) := hp
  refine ⟨F, Z0, hd, hca, ρ, s, R, Post.bnd hp fun ds s1 J H1 _ e1 h1 wk hp1 => ?_⟩
  have R1 := R.step e1 h1
  intro D hD
  have nDh : D ≠ hd := fun e => by have := h1.at_; rw [← e, hD] at this; cases this
  have FD : F D = none := by
    cases q : F D with
    | none => rfl
    | some o => have := R1.ext D o q nDh; rw [hD] at this; cases this
  have R2 : Rel X.K F (fun a => Z0 a ∨ a = D) hd hca g.ms ρ s1 σ (upd H1 D (.lst [])) := R1.addZ hD
  generalize hf : (fun y => noEx (turnF g.call tgt vs cd tgt1 vs1 it1 cd1 x ρ y)) = f at *
  have nx : ∀ y s c as s', f y s ≠ .ex c as s' := fun y s c as s' => by rw [← hf]; exact noEx_ex _ _ _ _ _
  cases res : compF f ds s1 with
  | ex c as s2 => exact (compF_ex nx _ _ _ _ _ res).elim
  | bad => unfold M.bnd at hp1; rw [res] at hp1; exact hp1.elim
  | ok zs s2 =>
    unfold M.bnd at hp1
    rw [res] at hp1
    simp only at hp1
    split at hp1
    case isFalse => exact hp1.elim
    rename_i hle
    have le2 : ∀ a, Zf (fun a => Z0 a ∨ a = D) hd g.ms ρ σ a → Zf Z0 hd g.ms ρ σ a ∨ H1 a = none := fun a z => by
      rcases z with (z | z) | z
      · exact .inl (.inl z)
      · exact .inr (by rw [z]; exact hD)
      · exact .inl (.inr z)
    refine ⟨fun i m H' => m = ds.length - i ∧ i ≤ ds.length ∧ ∃ s' acc accD zs', Ext2 hd D (upd H1 D (.lst [])) H' ∧ Rel X.K F (fun a => Z0 a ∨ a = D) hd hca g.ms ρ s' σ H' ∧ H' D = some (.lst acc) ∧ Reps X.K H' (Zal al (fun a => Z0 a ∨ a = D) hd g.ms ρ σ) acc accD ∧
        compF f (ds.drop i) s' = .ok zs' s2 ∧ accD ++ zs' = zs, ⟨ds.length, by simp, Nat.zero_le _, s1, [], [], zs, Ext2.refl, R2, upd_same, .nil, by simpa using res, rfl⟩, ?_⟩
    rintro i m H' ⟨rfl, hi', s', acc, accD, zs', ex, Ri, hDi, rs, heq, hz⟩
    have stay : Stay (Zal ow Z0 hd g.ms ρ σ) H1 H' := ((Ext.upd hD).ext2.trans ex).stay (Zal.has ow) (.inr hD)
    by_cases hlt : i < ds.length
    · refine .inr ?_
      have hd' : ds[i]? = some ds[i] := List.getElem?_eq_getElem hlt
      generalize ds[i] = d at hd'
      have hdrop : ds.drop i = d :: ds.drop (i + 1) := by
        rw [List.drop_eq_getElem_cons hlt]
        rw [List.getElem?_eq_getElem hlt] at hd'
        rw [Option.some.inj hd']
      obtain ⟨go, yl⟩ := wk.item i H' d (Zf (fun a => Z0 a ∨ a = D) hd g.ms ρ σ) le2 stay Ri.trf hd'
      rw [hdrop] at heq
      obtain ⟨o, s3, r, hf2, heq2, hzr⟩ := compF_inv heq
      have hin : turnF g.call tgt vs cd tgt1 vs1 it1 cd1 x ρ d s' = .ok o s3 := by
        rw [← hf] at hf2
        exact noEx_ok hf2
      obtain ⟨ρ1, s4, hb1, hin⟩ := bnd_inv hin
      obtain ⟨hb2, e3⟩ := lift_inv hb1
      subst e3
      obtain ⟨l, hl, e4⟩ := Option.map_eq_some_iff.mp hb2
      subst e4
      obtain ⟨t, s5, hcd, hin⟩ := bnd_inv hin
      have lix : ∀ p ∈ l, p.1 ∈ vs := fun p hp => hix _ (bindL_ix tgt d l hl p hp)
      refine ⟨go, fun H'' => ∃ s'' acc' accD' zs'', Ext2 hd D (upd H1 D (.lst [])) H'' ∧ Rel X.K F (fun a => Z0 a ∨ a = D) hd hca g.ms ρ s'' σ H'' ∧ H'' D = some (.lst acc') ∧ Reps X.K H'' (Zal al (fun a => Z0 a ∨ a = D) hd g.ms ρ σ) acc' accD' ∧
        compF f (ds.drop (i + 1)) s'' = .ok zs'' s2 ∧ accD' ++ zs'' = zs, fun H'' n => ⟨ds.length - (i + 1), by omega, rfl, hlt, n⟩, fun v Hy y => ?_⟩
      obtain ⟨kp, rv⟩ := yl v Hy y
      have Ry := Ri.step kp.ext (Ri.hand.keeps kp)
      have Rw := Ry.wipe (vs := vs) hms
      have same : ∀ j ∈ g.ms, ρ[j]? = (wipeE ρ vs)[j]? ∧ σ[j]? = (wipe σ vs)[j]? := fun j hj => by
        have : j ∉ vs := fun e => hms j e hj
        rw [wipeE_get this, wipe_get this]; exact ⟨rfl, rfl⟩
      refine tG_ok tgt d v l (wipe σ vs) _ hl rv fun l' pr => ?_
      have pix := pr.ix
      have lix' : ∀ p ∈ l', p.1 ∈ vs := fun p hp => by
        have : p.1 ∈ l.map (·.1) := by rw [← pix]; exact List.mem_map_of_mem hp
        obtain ⟨q, hq, e⟩ := List.mem_map.mp this
        rw [← e]; exact lix q hq
      have pr' : Prs X.K Hy (Zf (fun a => Z0 a ∨ a = D) hd g.ms (wipeE ρ vs) (wipe σ vs)) l' l := by
        have : ∀ {l' : List (Nat × V)} {l : List (Nat × PyData)}, Prs X.K Hy (Zf (fun a => Z0 a ∨ a = D) hd g.ms ρ σ) l' l → Prs X.K Hy (Zf (fun a => Z0 a ∨ a = D) hd g.ms (wipeE ρ vs) (wipe σ vs)) l' l := by
          intro l' l p
          induction p with
          | nil => exact .nil
          | cons r _ ih => exact .cons (r.less fun a z => Zf.same (same_symm same) z) ih
        exact this pr
      have Rb := Rw.setAll pr' fun p hp => hms _ (lix p hp)
      have same2 : ∀ j ∈ g.ms, ρ[j]? = (setAll (wipeE ρ vs) l)[j]? ∧ σ[j]? = (setV (wipe σ vs) l')[j]? := fun j hj => by
        have : j ∉ vs := fun e => hms j e hj
        rw [setAll_get fun p hp e => this (by rw [← e]; exact lix p hp), setV_get fun p hp e => this (by rw [← e]; exact lix' p hp)]
        exact same j hj
      refine ⟨wipe_back lix', ?_⟩
      have fin : ∀ (b : Bool) (Hb : Hp), Ext hd Hy Hb → HandAt Hb hd hca s5 → b = t → (if b = true then tI g E0 X.K false it1 (setV (wipe σ vs) l') Hb (fun J1 H4 => ∃ W1 : Nat → Nat → Hp → Prop, (∃ m, W1 0 m H4) ∧ ∀ j k H, W1 j k H →
          (J1.stop j H ∧ (fun H'' => ∃ s'' acc' accD' zs'', Ext2 hd D (upd H1 D (.lst [])) H'' ∧ Rel X.K F (fun a => Z0 a ∨ a = D) hd hca g.ms ρ s'' σ H'' ∧ H'' D = some (.lst acc') ∧ Reps X.K H'' (Zal al (fun a => Z0 a ∨ a = D) hd g.ms ρ σ) acc' accD' ∧ compF f (ds.drop (i + 1)) s'' = .ok zs'' s2 ∧ accD' ++ zs'' = zs) H) ∨
          (J1.go j H ∧ ∃ Nx1 : Hp → Prop, (∀ H', Nx1 H' → ∃ k', k' < k ∧ W1 (j + 1) k' H') ∧ ∀ v H', J1.yld j H v H' → tG X.K tgt1 v (wipe (setV (wipe σ vs) l') vs1) H' fun σ3 H5 => wipe σ3 vs1 = wipe (setV (wipe σ vs) l') vs1 ∧ tCd g E0 X.K cd1 σ3 H5 fun b H6 =>
            if b = true then tE g E0 X.K al x σ3 H6 fun y H7 => ∃ acc, H7 D = some (.lst acc) ∧ acc.length < sizeLine ∧ Nx1 (upd H7 D (.lst (acc ++ [y]))) else Nx1 H6))
          else (∃ s'' acc' accD' zs'', Ext2 hd D (upd H1 D (.lst [])) Hb ∧ Rel X.K F (fun a => Z0 a ∨ a = D) hd hca g.ms ρ s'' σ Hb ∧ Hb D = some (.lst acc') ∧ Reps X.K Hb (Zal al (fun a => Z0 a ∨ a = D) hd g.ms ρ σ) acc' accD' ∧ compF f (ds.drop (i + 1)) s'' = .ok zs'' s2 ∧ accD' ++ zs'' = zs)) := by
        intro b Hb eb hb' hbt
        subst hbt
        have DHb : Hb D = some (.lst acc) := eb _ _ (kp _ _ hDi) nDh
        cases b with
        | false =>
          rw [if_neg Bool.false_ne_true]
          rw [if_neg Bool.false_ne_true] at hin
          cases hin
          exact ⟨s3, acc, accD, r, (ex.trans kp.ext.ext2).trans eb.ext2, Ry.step eb hb', DHb, (rs.keeps kp).mono eb (Zal.has al), heq2, by rw [← hz, hzr]; rfl⟩
        | true =>
          rw [if_pos rfl]
          rw [if_pos rfl] at hin
          obtain ⟨ys, s6, hy, hin⟩ := bnd_inv hin
          have Rb2 := Rb.step eb hb'
          refine ⟨F, fun a => Z0 a ∨ a = D, hd, hca, setAll (wipeE ρ vs) l, s5, Rb2, ?_⟩
          rw [hy]
          intro J1 H4 e4 h4 wk1
          have R4 := Rb2.step e4 h4
          have DH4 : H4 D = some (.lst acc) := e4 _ _ DHb nDh
          have rs4 := ((rs.keeps kp).mono eb (Zal.has al)).mono e4 (Zal.has al)
          have rs5 : Reps X.K H4 (Zal al (fun a => Z0 a ∨ a = D) hd g.ms (setAll (wipeE ρ vs) l) (setV (wipe σ vs) l')) acc accD := rs4.less fun a z => Zal.same (same_symm same2) z
          have hl3 : accD.length + o.length ≤ sizeLine := by
            have := congrArg List.length hz
            rw [hzr] at this
            simp at this
            omega
          refine loop1 (al := al) (x := x) (cd := cd1) (Zs := Zal false (fun a => Z0 a ∨ a = D) hd g.ms (setAll (wipeE ρ vs) l) (setV (wipe σ vs) l')) hms1 hix1 (.inr rfl) FD nDh R4 DH4 rs5 wk1 (Zal.has false) (.inl (Zal.b (.inl (.inr rfl)))) Ext2.refl (fun a z => .inl z) hin hl3 fun H'' acc' ex' R' hD' rs' => ?_
          refine ⟨s3, acc', accD ++ o, r, ((ex.trans kp.ext.ext2).trans eb.ext2).trans (e4.ext2.trans ex'), ?_, hD', rs'.less fun a z => Zal.same same2 z, heq2, by rw [List.append_assoc, ← hzr]; exact hz⟩
          -- back to the slots as they were
          exact {
            ext := R'.ext
            tr := R'.tr
            hand := R'.hand
            nc := R'.nc
            sh := fun j y hj e => by
              obtain ⟨w, h1, h2⟩ := Ry.sh j y hj e
              refine ⟨w, h1, ?_⟩
              have h3 : RepS X.K Hb (Zf (fun a => Z0 a ∨ a = D) hd g.ms ρ σ) hd w y := h2.mono eb Zf.has
              have h4 := h3.mono e4 Zf.has
              cases y with
              | d p => exact Rep.move (fun b o hb nb => ex' b o hb (fun z => nb (z ▸ Zf.has)) fun z => nb (.inl (.inr z))) (fun _ _ n => n) p w h4
              | hand => exact h4
            own := fun j y hj e => by
              have q := same2 j hj
              obtain ⟨w, h1, ⟨a, xs, ds, e1, e2, h2, h3, h4, h5⟩⟩ := R'.own j y hj (by rw [← q.1]; exact e)
              exact ⟨w, by rw [q.2]; exact h1, ⟨a, xs, ds, e1, e2, h2, h3, h4.less fun a z => Zf.same same2 z, h5⟩⟩
            dis := Ry.dis
            len := Ry.len }
      cases cd with
      | none =>
        cases hcd
        exact fin true Hy (Ext.refl _ _) (Ri.hand.keeps kp) rfl
      | some c =>
        refine ⟨F, fun a => Z0 a ∨ a = D, hd, hca, setAll (wipeE ρ vs) l, s4, Rb, ?_⟩
        have hcd : M.bnd (evE g.call c (setAll (wipeE ρ vs) l)) tru s4 = .ok t s5 := hcd
        rw [hcd]
        exact fun b Hb eb hb' hbt => fin b Hb eb hb' hbt
    · have e : i = ds.length := by omega
      subst e
      refine .inl ⟨wk.stop _ _ stay (Nat.le_refl _), ?_⟩
      rw [List.drop_length] at heq
      cases heq
      rw [List.append_nil] at hz
      subst hz
      refine hp1 (.ref D) H' (fun b o e n => ?_) Ri.hand (.lst hDi (fun z => R1.trf D z.le hD) ?_ (rs.less fun a z => ?_))
      · exact ex b o (by rw [upd_ne (ne_of_none e hD)]; exact e) n (ne_of_none e hD)
      · rw [rs.length]; exact hle
      · cases al
        · exact z.imp .inl id
        · exact z.imp .inl id
end
end Wv

set_option Elab.async false
set_option autoImplicit false
set_option linter.all false
set_option maxRecDepth 100000
set_option maxHeartbeats 4000000
namespace Wv
open PySem PySem.Spec PyProof.Rows L2 PySem.W
/-! ### what is wanted behind a statement -/
def PostS (XR : XRep) (Eo : XK) (K : PySem.W.Frag) (F : Hp) (Z0 : Addr → Prop) (hd hc : Addr) (ms : List Nat) (D : Ends) : R Fl → Prop
  | .ok (.nx ρ) s => ∀ σ H, Rel K F Z0 hd hc ms ρ s σ H → D.nx σ H
  | .ok (.bk ρ) s => ∀ σ H, Rel K F Z0 hd hc ms ρ s σ H → D.bk σ H
  | .ok (.ct ρ) s => ∀ σ H, Rel K F Z0 hd hc ms ρ s σ H → D.ct σ H
  | .ok (.rt x) s => ∀ v H, Ext hd F H → HandAt H hd hc s → RepS K H (Zb Z0 hd) hd v x → D.rt v H
  | .ex c as s => ∀ cls dd H, Ext hd F H → HandAt H hd hc s → XR c as cls dd H → Eo cls dd H
  | .bad => False
def tS (g : Sg) (Eo : XK) (K : PySem.W.Frag) (st : St) : TS := fun D σ H => ∃ F Z0 hd hc ρ s, Rel K F Z0 hd hc g.ms ρ s σ H ∧ PostS g.XR Eo K F Z0 hd hc g.ms D (evS g.call st ρ s)
def tSs (g : Sg) (Eo : XK) (K : PySem.W.Frag) (sts : List St) : TS := fun D σ H => ∃ F Z0 hd hc ρ s, Rel K F Z0 hd hc g.ms ρ s σ H ∧ PostS g.XR Eo K F Z0 hd hc g.ms D (evSs g.call sts ρ s)
abbrev JS (g : Sg) (Eo : XK) (X : Cx) (st : Stmt) (x : St) : Prop := PS X st (tS g Eo X.K x)
abbrev JSs (g : Sg) (Eo : XK) (X : Cx) (st : List Stmt) (x : List St) : Prop := PSs X st (tSs g Eo X.K x)
theorem ps_imp {X : Cx} {st : Stmt} {t t' : TS} (h : PS X st t) (k : ∀ D σ H, t' D σ H → t D σ H) : PS X st t' := ⟨fun pins s σ H D I q => h.run pins s σ H D I (k D σ H q)⟩
theorem pss_imp {X : Cx} {st : List Stmt} {t t' : TS} (h : PSs X st t) (k : ∀ D σ H, t' D σ H → t D σ H) : PSs X st t' := ⟨fun pins s σ H D I q => h.run pins s σ H D I (k D σ H q)⟩
section
variable {XR : XRep} {Eo : XK} {K : PySem.W.Frag} {F H : Hp} {Z0 : Addr → Prop} {hd hc : Addr} {ms : List Nat} {D : Ends} {s : Hand} {ρ : Env} {σ : L2.St}
theorem PostS.bnd {α β : Type} {m : M α} {k : α → M Fl} {Rp : Hp → β → α → Prop} {Q : β → Hp → Prop} (e0 : Ext hd F H) (h : PostS XR Eo K F Z0 hd hc ms D (M.bnd m k s))
    (hk : ∀ a s1 b H1, m s = .ok a s1 → Ext hd H H1 → HandAt H1 hd hc s1 → Rp H1 b a → PostS XR Eo K F Z0 hd hc ms D (k a s1) → Q b H1) : Post XR Eo hd hc H Rp Q (m s) := by
  unfold M.bnd at h
  cases e : m s with
  | ok a s1 =>
    rw [e] at h
    intro b H1 e1 h1 r1
    exact hk a s1 b H1 e e1 h1 r1 h
  | ex c as s1 =>
    rw [e] at h
    exact fun cl dd H2 x2 h2 r2 => h cl dd H2 (e0.trans x2) h2 r2
  | bad => rw [e] at h; exact h
theorem PostS.bndD {Z : Addr → Prop} {m : M SV} {k : PyData → M Fl} {Q : V → Hp → Prop} (e0 : Ext hd F H) (h : PostS XR Eo K F Z0 hd hc ms D (M.bnd (toD m) k s))
    (hk : ∀ d s1 v H1, m s = .ok (.d d) s1 → Ext hd H H1 → HandAt H1 hd hc s1 → Rep K H1 Z v d → PostS XR Eo K F Z0 hd hc ms D (k d s1) → Q v H1) : Post XR Eo hd hc H (fun H' v y => RepS K H' Z hd v y) Q (m s) := by
  unfold toD at h
  rw [bnd_assoc] at h
  refine h.bnd e0 fun a s1 v H1 e e1 h1 r hp => ?_
  cases a with
  | d p => exact hk p s1 v H1 e e1 h1 r hp
  | hand => exact hp.elim
theorem PostS.lift {α : Type} {o : Option α} {k : α → M Fl} (h : PostS XR Eo K F Z0 hd hc ms D (M.bnd (lift o) k s)) : ∃ a, o = some a ∧ PostS XR Eo K F Z0 hd hc ms D (k a s) := by
  cases o with
  | none => exact h.elim
  | some d => exact ⟨d, rfl, h⟩
theorem PostS.tru {x : SV} {k : Bool → M Fl} (h : PostS XR Eo K F Z0 hd hc ms D (M.bnd (tru x) k s)) : ∃ p t, x = .d p ∧ truthy p = some t ∧ PostS XR Eo K F Z0 hd hc ms D (k t s) := by
  cases x with
  | d p =>
    obtain ⟨t, h1, h2⟩ := PostS.lift (o := truthy p) h
    exact ⟨p, t, rfl, h1, h2⟩
  | hand => exact h.elim
theorem PostS.slotL {i : Nat} {k : List PyData → M Fl} (h : PostS XR Eo K F Z0 hd hc ms D (M.bnd (slotL ρ i) k s)) : ∃ ds, ρ[i]? = some (some (.d (.list ds))) ∧ PostS XR Eo K F Z0 hd hc ms D (k ds s) := by
  unfold Wv.slotL at h
  split at h
  · exact ⟨_, by assumption, h⟩
  · exact h.elim
theorem PostS.slotD {i : Nat} {k : PyData → M Fl} (h : PostS XR Eo K F Z0 hd hc ms D (M.bnd (slotD ρ i) k s)) : ∃ ds, ρ[i]? = some (some (.d ds)) ∧ PostS XR Eo K F Z0 hd hc ms D (k ds s) := by
  unfold Wv.slotD at h
  split at h
  · exact ⟨_, by assumption, h⟩
  · exact h.elim
/-- the same from a later ground -/
theorem PostS.le {F' : Hp} {D' : Ends} {r : R Fl} (h : PostS XR Eo K F Z0 hd hc ms D r) (e : Ext hd F F') (re : ∀ ρ s σ H, Rel K F' Z0 hd hc ms ρ s σ H → Rel K F Z0 hd hc ms ρ s σ H)
    (n : ∀ ρ s σ H, r = .ok (.nx ρ) s → Rel K F' Z0 hd hc ms ρ s σ H → D'.nx σ H) (c : ∀ ρ s σ H, r = .ok (.ct ρ) s → Rel K F' Z0 hd hc ms ρ s σ H → D'.ct σ H) (b : ∀ ρ s σ H, r = .ok (.bk ρ) s → Rel K F' Z0 hd hc ms ρ s σ H → D'.bk σ H) (t : D'.rt = D.rt) : PostS XR Eo K F' Z0 hd hc ms D' r := by
  cases r with
  | ok f s =>
    cases f with
    | nx ρ => exact fun σ H R => n ρ s σ H rfl R
    | bk ρ => exact fun σ H R => b ρ s σ H rfl R
    | ct ρ => exact fun σ H R => c ρ s σ H rfl R
    | rt x => exact fun v H e1 h1 r1 => by rw [t]; exact h v H (e.trans e1) h1 r1
  | ex c as s => exact fun cls dd H e1 h1 r1 => h cls dd H (e.trans e1) h1 r1
  | bad => exact h
/-! ### the relation, written -/
/-- tuples are never owned -/
theorem Rel.notList (R : Rel K F Z0 hd hc ms ρ s σ H) {a : Addr} (h : Zf Z0 hd ms ρ σ a) : Zb Z0 hd a ∨ ∃ xs, H a = some (.lst xs) := by
  rcases h with h | h | h
  · exact .inl (.inl h)
  · exact .inl (.inr h)
  · exact .inr (R.ownAt h).1
mutual
theorem Rep.flat {Z Z' : Addr → Prop} (k : ∀ a, Z' a → Z a ∨ ∃ xs, H a = some (.lst xs)) : ∀ (d : PyData) (v : V), flatB d = true → Rep K H Z v d → Rep K H Z' v d
  | .none, _, _, r => by cases r; exact .non
  | .bool b, _, _, r => by cases r; exact .bl b
  | .int i, _, _, r => by cases r; exact .int i
  | .str x, _, _, r => by cases r; exact .str x
  | .list ds, _, f, r => by simp [flatB] at f
  | .tuple ds, _, f, r => by
    have f : flatBs ds = true := by simpa [flatB] using f
    cases r with
    | tup h n z rs => exact .tup h (fun q => (k _ q).elim n fun ⟨xs, e⟩ => by rw [h] at e; cases e) z (Reps.flat k ds _ f rs)
    | tupK h z rs => exact .tupK h z (Reps.flat k ds _ f rs)
  | .dict _, _, _, r => by cases r
theorem Reps.flat {Z Z' : Addr → Prop} (k : ∀ a, Z' a → Z a ∨ ∃ xs, H a = some (.lst xs)) : ∀ (ds : List PyData) (vs : List V), flatBs ds = true → Reps K H Z vs ds → Reps K H Z' vs ds
  | [], _, _, r => by cases r; exact .nil
  | d :: ds, _, f, r => by
    simp only [flatBs, Bool.and_eq_true] at f
    cases r with
    | cons h t => exact .cons (Rep.flat k d _ f.1 h) (Reps.flat k ds _ f.2 t)
end
/-- what may be stored, from an expression judged with fl -/
theorem Rel.storable (R : Rel K F Z0 hd hc ms ρ s σ H) {fl : Bool} {v : V} {x : SV} (r : RepS K H (Zal fl Z0 hd ms ρ σ) hd v x) (f : flatOk fl x = true) : RepS K H (Zf Z0 hd ms ρ σ) hd v x := by
  cases fl with
  | false => exact r
  | true =>
    cases x with
    | d p => exact Rep.flat (fun a z => R.notList z) p v (by simpa [flatOk] using f) r
    | hand => simp [flatOk] at f
theorem Rel.storables (R : Rel K F Z0 hd hc ms ρ s σ H) {fl : Bool} {vs : List V} {ds : List PyData} (r : Reps K H (Zal fl Z0 hd ms ρ σ) vs ds) (f : flatOk fl (.d (.tuple ds)) = true) : Reps K H (Zf Z0 hd ms ρ σ) vs ds := by
  cases fl with
  | false => exact r
  | true => exact Reps.flat (fun a z => R.notList z) ds vs (by simpa [flatOk, flatB] using f) r
/-- an owned list is rewritten -/
theorem Rel.rewrite (R : Rel K F Z0 hd hc ms ρ s σ H) {i : Nat} {ds ds' : List PyData} {a : Addr} {ys : List V} (hi : i ∈ ms) (hx : ρ[i]? = some (some (.d (.list ds)))) (hv : σ[i]? = some (some (.ref a))) (hz : ys.length ≤ sizeLine) (r : Reps K H (Zf Z0 hd ms ρ σ) ys ds') :
    Rel K F Z0 hd hc ms (ρ.set i (some (.d (.list ds')))) s σ (upd H a (.lst ys)) := by
  have ow : OwnA ms ρ σ a := ⟨i, hi, ⟨_, hx⟩, hv⟩
  obtain ⟨⟨xs, hxs⟩, hF, hZ0, hhd, hhc⟩ := R.ownAt ow
  have hil : i < ρ.length := by
    by_cases h : i < ρ.length
    · exact h
    · rw [List.getElem?_eq_none (by omega)] at hx; cases hx
  have same : ∀ b, OwnA ms (ρ.set i (some (.d (.list ds')))) σ b → OwnA ms ρ σ b := by
    rintro b ⟨j, hj, ⟨x, e⟩, hs⟩
    by_cases q : i = j
    · subst q; exact ⟨i, hi, ⟨_, hx⟩, hs⟩
    · rw [List.getElem?_set_ne q] at e; exact ⟨j, hj, ⟨x, e⟩, hs⟩
  have zz : ∀ b, Zf Z0 hd ms (ρ.set i (some (.d (.list ds')))) σ b → Zf Z0 hd ms ρ σ b := fun b z => z.imp id fun z => z.imp id (same b)
  have k : ∀ b u, H b = some u → ¬ Zf Z0 hd ms ρ σ b → (upd H a (.lst ys)) b = some u := fun b u e n => by
    rw [upd_ne (fun q => n (by rw [q]; exact .inr (.inr ow)))]; exact e
  have kz : ∀ b, H b ≠ none → ¬ Zf Z0 hd ms ρ σ b → ¬ Zf Z0 hd ms (ρ.set i (some (.d (.list ds')))) σ b := fun b _ n z => n (zz b z)
  exact {
    ext := fun b u e hb => by rw [upd_ne (ne_of_none e hF)]; exact R.ext b u e hb
    tr := fun b hb => by
      by_cases q : b = a
      · rw [q, upd_same]; exact fun z => nomatch z
      · rw [upd_ne q]; exact R.tr b hb
    hand := ⟨by rw [upd_ne (Ne.symm hhd)]; exact R.hand.at_, by rw [upd_ne (Ne.symm hhc)]; exact R.hand.cells, R.hand.len⟩
    nc := R.nc
    sh := fun j x hj e => by
      have q : i ≠ j := fun q => hj (q ▸ hi)
      rw [List.getElem?_set_ne q] at e
      obtain ⟨v, h1, h2⟩ := R.sh j x hj e
      refine ⟨v, h1, ?_⟩
      cases x with
      | d p => exact Rep.move (H' := upd H a (.lst ys)) k kz p v h2
      | hand => exact h2
    own := fun j x hj e => by
      by_cases q : i = j
      · subst q
        rw [List.getElem?_set_self hil] at e
        cases e
        exact ⟨_, hv, ⟨a, ys, ds', rfl, rfl, upd_same, hz, r.move k kz, hF, hZ0, hhd, hhc⟩⟩
      · rw [List.getElem?_set_ne q] at e
        obtain ⟨v, h1, ⟨b, xs2, ds2, e1, e2, h2, h3, h4, h5⟩⟩ := R.own j x hj e
        have hb : b ≠ a := fun z => q (R.dis i j _ _ a hi hj hx e hv (by rw [h1, e2, z]))
        exact ⟨v, h1, ⟨b, xs2, ds2, e1, e2, by rw [upd_ne hb]; exact h2, h3, h4.move k kz, h5⟩⟩
    dis := fun j l x y b hj hl h1 h2 h3 h4 => by
      have f : ∀ {j : Nat} {x : SV}, (ρ.set i (some (.d (.list ds'))))[j]? = some (some x) → ∃ y, ρ[j]? = some (some y) := fun {j x} h => by
        by_cases q : i = j
        · subst q; exact ⟨_, hx⟩
        · rw [List.getElem?_set_ne q] at h; exact ⟨x, h⟩
      obtain ⟨x1, e1⟩ := f h1
      obtain ⟨x2, e2⟩ := f h2
      exact R.dis j l x1 x2 b hj hl e1 e2 h3 h4
    len := by rw [List.length_set]; exact R.len }
/-- a new list, owned -/
theorem Rel.newOwn (R : Rel K F Z0 hd hc ms ρ s σ H) {i : Nat} {ds : List PyData} {a : Addr} {ys : List V} (hi : i ∈ ms) (hF : F a = none) (hZ0 : ¬ Z0 a) (hhd : a ≠ hd) (hhc : a ≠ hc)
    (hown : ¬ OwnA ms ρ σ a) (sh : ∀ (j : Nat) x, j ∉ ms → ρ[j]? = some (some x) → ∃ v, σ[j]? = some (some v) ∧ RepS K H (fun b => Zf Z0 hd ms ρ σ b ∨ b = a) hd v x)
    (ow : ∀ (j : Nat) x, j ∈ ms → ρ[j]? = some (some x) → ∃ v, σ[j]? = some (some v) ∧ Own K F Z0 hd hc (fun b => Zf Z0 hd ms ρ σ b ∨ b = a) H v x)
    (hH : H a = some (.lst ys)) (hz : ys.length ≤ sizeLine) (r : Reps K H (fun b => Zf Z0 hd ms ρ σ b ∨ b = a) ys ds) :
    Rel K F Z0 hd hc ms (ρ.set i (some (.d (.list ds)))) s (σ.set i (some (.ref a))) H := by
  have same : ∀ b, OwnA ms (ρ.set i (some (.d (.list ds)))) (σ.set i (some (.ref a))) b → OwnA ms ρ σ b ∨ b = a := by
    rintro b ⟨j, hj, ⟨x, e⟩, hs⟩
    by_cases q : i = j
    · subst q
      by_cases hl : i < σ.length
      · rw [List.getElem?_set_self hl] at hs; cases hs; exact .inr rfl
      · rw [List.getElem?_eq_none (by simpa using hl)] at hs; cases hs
    · rw [List.getElem?_set_ne q] at e hs; exact .inl ⟨j, hj, ⟨x, e⟩, hs⟩
  have zz : ∀ b, Zf Z0 hd ms (ρ.set i (some (.d (.list ds)))) (σ.set i (some (.ref a))) b → Zf Z0 hd ms ρ σ b ∨ b = a := fun b z => by
    rcases z with z | z | z
    · exact .inl (.inl z)
    · exact .inl (.inr (.inl z))
    · exact (same b z).imp (fun z => .inr (.inr z)) id
  exact {
    ext := R.ext
    tr := R.tr
    hand := R.hand
    nc := R.nc
    sh := fun j x hj e => by
      have q : i ≠ j := fun q => hj (q ▸ hi)
      rw [List.getElem?_set_ne q] at e ⊢
      obtain ⟨v, h1, h2⟩ := sh j x hj e
      exact ⟨v, h1, h2.less zz⟩
    own := fun j x hj e => by
      by_cases q : i = j
      · subst q
        by_cases hl : i < ρ.length
        · rw [List.getElem?_set_self hl] at e
          cases e
          exact ⟨_, List.getElem?_set_self (by rw [← R.len]; exact hl), ⟨a, ys, ds, rfl, rfl, hH, hz, r.less zz, hF, hZ0, hhd, hhc⟩⟩
        · rw [List.getElem?_eq_none (by simpa using hl)] at e; cases e
      · rw [List.getElem?_set_ne q] at e ⊢
        obtain ⟨v, h1, ⟨b, xs2, ds2, e1, e2, h2, h3, h4, h5⟩⟩ := ow j x hj e
        exact ⟨v, h1, ⟨b, xs2, ds2, e1, e2, h2, h3, h4.less zz, h5⟩⟩
    dis := fun j l x y b hj hl h1 h2 h3 h4 => by
      by_cases q1 : i = j <;> by_cases q2 : i = l
      · rw [← q1, ← q2]
      · subst q1
        rw [List.getElem?_set_ne q2] at h2 h4
        by_cases hl' : i < σ.length
        · rw [List.getElem?_set_self hl'] at h3; cases h3
          exact absurd ⟨l, hl, ⟨y, h2⟩, h4⟩ hown
        · rw [List.getElem?_eq_none (by simpa using hl')] at h3; cases h3
      · subst q2
        rw [List.getElem?_set_ne q1] at h1 h3
        by_cases hl' : i < σ.length
        · rw [List.getElem?_set_self hl'] at h4; cases h4
          exact absurd ⟨j, hj, ⟨x, h1⟩, h3⟩ hown
        · rw [List.getElem?_eq_none (by simpa using hl')] at h4; cases h4
      · rw [List.getElem?_set_ne q1] at h1 h3
        rw [List.getElem?_set_ne q2] at h2 h4
        exact R.dis j l x y b hj hl h1 h2 h3 h4
    len := by rw [List.length_set, List.length_set]; exact R.len }
/-- a list that was not there at H is owned now -/
theorem Rel.fresh (R : Rel K F Z0 hd hc ms ρ s σ H) {H' : Hp} {s' : Hand} {i : Nat} {ds : List PyData} {a : Addr} {ys : List V} (hi : i ∈ ms) (e : Ext hd H H') (h' : HandAt H' hd hc s') (n : H a = none) (hH : H' a = some (.lst ys)) (hz : ys.length ≤ sizeLine)
    (r : Reps K H' (fun b => Zf Z0 hd ms ρ σ b ∨ b = a) ys ds) : Rel K F Z0 hd hc ms (ρ.set i (some (.d (.list ds)))) s' (σ.set i (some (.ref a))) H' := by
  have nf : ¬ Zf Z0 hd ms ρ σ a := fun z => R.trf a z n
  have zm : ∀ b, (Zf Z0 hd ms ρ σ b ∨ b = a) → Zf Z0 hd ms ρ σ b ∨ H b = none := fun b z => z.imp id fun q => by rw [q]; exact n
  have nh : a ≠ hd := fun q => by have := R.hand.at_; rw [← q, n] at this; cases this
  have nc : a ≠ hc := fun q => by have := R.hand.cells; rw [← q, n] at this; cases this
  refine (R.step e h').newOwn hi ?_ (fun z => nf (.inl z)) nh nc (fun z => nf (.inr (.inr z))) (fun j x hj q => ?_) (fun j x hj q => ?_) hH hz r
  · cases q : F a with
    | none => rfl
    | some o => have := R.ext a o q nh; rw [n] at this; cases this
  · obtain ⟨v, h1, h2⟩ := R.sh j x hj q
    exact ⟨v, h1, (h2.more zm).mono e (.inl Zf.has)⟩
  · obtain ⟨v, h1, ⟨b, xs2, ds2, e1, e2, h2, h3, h4, h5, h6, h7, h8⟩⟩ := R.own j x hj q
    exact ⟨v, h1, ⟨b, xs2, ds2, e1, e2, e _ _ h2 h7, h3, (h4.more zm).mono e (.inl Zf.has), h5, h6, h7, h8⟩⟩
/-- an owned list is given away -/
theorem Rel.give (R : Rel K F Z0 hd hc ms ρ s σ H) {i j : Nat} {ds : List PyData} {a : Addr} (hi : i ∉ ms) (hj : j ∈ ms) (hx : ρ[j]? = some (some (.d (.list ds)))) (hv : σ[j]? = some (some (.ref a))) :
    Rel K F Z0 hd hc ms ((ρ.set i (some (.d (.list ds)))).set j none) s (σ.set i (some (.ref a))) H := by
  obtain ⟨v, hv2, ⟨b, xs, ds2, e1, e2, h2, h3, h4, h5, h6, h7, h8⟩⟩ := R.own j _ hj hx
  cases e1
  rw [hv] at hv2
  cases hv2
  cases e2
  have ij : i ≠ j := fun q => hi (q ▸ hj)
  have get : ∀ {l : Nat} {x : SV}, l ∈ ms → ((ρ.set i (some (.d (.list ds)))).set j none)[l]? = some (some x) → l ≠ j ∧ ρ[l]? = some (some x) ∧ (σ.set i (some (.ref a)))[l]? = σ[l]? := fun {l x} hl h => by
    by_cases q : j = l
    · subst q
      by_cases hl' : j < (ρ.set i (some (.d (.list ds)))).length
      · rw [List.getElem?_set_self hl'] at h; cases h
      · rw [List.getElem?_eq_none (by simpa using hl')] at h; cases h
    · have q2 : i ≠ l := fun q => hi (q ▸ hl)
      rw [List.getElem?_set_ne q, List.getElem?_set_ne q2] at h
      exact ⟨fun z => q z.symm, h, List.getElem?_set_ne q2⟩
  have same : ∀ b, OwnA ms ((ρ.set i (some (.d (.list ds)))).set j none) (σ.set i (some (.ref a))) b → OwnA ms ρ σ b := by
    rintro b ⟨l, hl, ⟨x, e⟩, hs⟩
    obtain ⟨_, q2, q3⟩ := get hl e
    exact ⟨l, hl, ⟨x, q2⟩, by rw [← q3]; exact hs⟩
  have zz : ∀ b, Zf Z0 hd ms ((ρ.set i (some (.d (.list ds)))).set j none) (σ.set i (some (.ref a))) b → Zf Z0 hd ms ρ σ b := fun b z => z.imp id fun z => z.imp id (same b)
  have na : ¬ Zf Z0 hd ms ((ρ.set i (some (.d (.list ds)))).set j none) (σ.set i (some (.ref a))) a := by
    rintro (z | z | ⟨l, hl, ⟨x, e⟩, hs⟩)
    · exact h6 z
    · exact h7 z
    · obtain ⟨q1, q2, q3⟩ := get hl e
      rw [q3] at hs
      exact q1 (R.dis l j _ _ a hl hj q2 hx hs hv)
  exact {
    ext := R.ext
    tr := R.tr
    hand := R.hand
    nc := R.nc
    sh := fun l x hl e => by
      have q : j ≠ l := fun q => hl (q ▸ hj)
      rw [List.getElem?_set_ne q] at e
      by_cases q2 : i = l
      · subst q2
        by_cases hl' : i < ρ.length
        · rw [List.getElem?_set_self hl'] at e
          cases e
          exact ⟨_, List.getElem?_set_self (by rw [← R.len]; exact hl'), Rep.lst h2 na h3 (h4.less zz)⟩
        · rw [List.getElem?_eq_none (by simpa using hl')] at e; cases e
      · rw [List.getElem?_set_ne q2] at e ⊢
        obtain ⟨v, h1, h2⟩ := R.sh l x hl e
        exact ⟨v, h1, h2.less zz⟩
    own := fun l x hl e => by
      obtain ⟨_, q2, q3⟩ := get hl e
      obtain ⟨v, h1, ⟨b, xs2, ds2, e1, e2, h2, h3, h4, h5⟩⟩ := R.own l x hl q2
      exact ⟨v, by rw [q3]; exact h1, ⟨b, xs2, ds2, e1, e2, h2, h3, h4.less zz, h5⟩⟩
    dis := fun l m x y b hl hm h1 h2 h3 h4 => by
      obtain ⟨_, q2, q3⟩ := get hl h1
      obtain ⟨_, r2, r3⟩ := get hm h2
      exact R.dis l m x y b hl hm q2 r2 (by rw [← q3]; exact h3) (by rw [← r3]; exact h4)
    len := by rw [List.length_set, List.length_set, List.length_set]; exact R.len }
/-- the hand is written -/
theorem Rel.handSet (R : Rel K F Z0 hd hc ms ρ s σ H) {s' : Hand} {k : Int} {y : PyData} {v : V} {Z : Addr → Prop} (r : Rep K H Z v y) (h : Wv.handSet s k y = some s') :
    ∃ j, ixN 5 k = some j ∧ Rel K F Z0 hd hc ms ρ s' σ (upd H hd (.lst ([V.ref hc, .int s.pos, .int s.big, .int s.mix, .int s.cnt].set j v))) := by
  have key : ∀ ys, ys = [V.ref hc, .int s'.pos, .int s'.big, .int s'.mix, .int s'.cnt] → s'.cells = s.cells → Rel K F Z0 hd hc ms ρ s' σ (upd H hd (.lst ys)) := fun ys e ec => {
    ext := fun b u e hb => by rw [upd_ne hb]; exact R.ext b u e hb
    tr := fun b hb => by
      by_cases q : b = hd
      · rw [q, upd_same]; exact fun z => nomatch z
      · rw [upd_ne q]; exact R.tr b hb
    hand := ⟨by rw [upd_same, e], by rw [upd_ne R.nc.2, ec]; exact R.hand.cells, by rw [ec]; exact R.hand.len⟩
    nc := R.nc
    sh := fun i x hi hx => by
      obtain ⟨v, h1, h2⟩ := R.sh i x hi hx
      exact ⟨v, h1, h2.mono (fun b u e hb => by rw [upd_ne hb]; exact e) Zf.has⟩
    own := fun i x hi hx => by
      obtain ⟨v, h1, ⟨a, xs, ds, e1, e2, h2, h3, h4, h5, h6, h7, h8⟩⟩ := R.own i x hi hx
      exact ⟨v, h1, ⟨a, xs, ds, e1, e2, by rw [upd_ne h7]; exact h2, h3, h4.mono (fun b u e hb => by rw [upd_ne hb]; exact e) Zf.has, h5, h6, h7, h8⟩⟩
    dis := R.dis
    len := R.len }
  unfold Wv.handSet at h
  split at h
  · cases h; cases r; exact ⟨1, rfl, key _ rfl rfl⟩
  · cases h; cases r; exact ⟨2, rfl, key _ rfl rfl⟩
  · cases h; cases r; exact ⟨3, rfl, key _ rfl rfl⟩
  · cases h; cases r; exact ⟨4, rfl, key _ rfl rfl⟩
  · cases h
end
end Wv

set_option Elab.async false
set_option autoImplicit false
set_option linter.all false
set_option maxRecDepth 100000
set_option maxHeartbeats 4000000
namespace Wv
open PySem PySem.Spec PyProof.Rows L2 PySem.W
/-! ### a statement's form -/
def isComp : Expr → Bool
  | .ListComp .. => true
  | .SetComp .. => true
  | .DictComp .. => true
  | _ => false
theorem sw_no {e : Expr} (h : isComp e = false) (t : Option Expr) (l : Nat) (env : PySem.Env) : swapsWith e t l env = pure false := by
  cases e <;> first | rfl | (simp [isComp] at h)
theorem sws_no {e : Expr} (h : isComp e = false) (t : Expr) (l : Nat) (env : PySem.Env) : swapsWithSole [t] e l env = pure false := by
  unfold swapsWithSole
  exact sw_no h _ _ _
def isSl : Expr → Bool
  | .Slice .. => true
  | _ => false
section
variable {g : Sg} {Eo : XK} {X : Cx} {al fl : Bool} {a b c tg e : Expr} {xa xb xc x : Ex} {pos : Pos} {st : Stmt}
/-! ### blocks -/
theorem jss_nil : JSs g Eo X [] [] := pss_imp pss_nil fun D σ H ⟨F, Z0, hd, hc, ρ, s, R, hp⟩ => hp σ H R
theorem jss_cons {r : List Stmt} {y : St} {ys : List St} (h : JS g Eo X st y) (hr : JSs g Eo X r ys) : JSs g Eo X (st :: r) (y :: ys) := by
  refine pss_imp (pss_cons h hr) fun D σ H ⟨F, Z0, hd, hc, ρ, s, R, hp⟩ => ⟨F, Z0, hd, hc, ρ, s, R, ?_⟩
  have hp : PostS g.XR Eo X.K F Z0 hd hc g.ms D (M.bnd (evS g.call y ρ) (fun f => match f with | .nx ρ' => evSs g.call ys ρ' | f => M.ret f) s) := hp
  unfold M.bnd at hp
  cases e : evS g.call y ρ s with
  | ok f s1 =>
    rw [e] at hp
    cases f with
    | nx ρ1 => exact fun σ1 H1 R1 => ⟨F, Z0, hd, hc, ρ1, s1, R1, hp⟩
    | bk ρ1 => exact hp
    | ct ρ1 => exact hp
    | rt v => exact hp
  | ex c as s1 => rw [e] at hp; exact hp
  | bad => rw [e] at hp; exact hp
/-! ### small statements -/
theorem js_pass : JS g Eo X (.Pass pos) .pass := ps_imp ps_pass fun D σ H ⟨F, Z0, hd, hc, ρ, s, R, hp⟩ => hp σ H R
theorem js_doc {z j : Str} {k : Option String} {p2 : Pos} : True := True.intro
theorem js_brk : JS g Eo X (.Break pos) .brk := ps_imp ps_break fun D σ H ⟨F, Z0, hd, hc, ρ, s, R, hp⟩ => hp σ H R
theorem js_cont : JS g Eo X (.Continue pos) .cont := ps_imp ps_continue fun D σ H ⟨F, Z0, hd, hc, ρ, s, R, hp⟩ => hp σ H R
theorem js_never : JS g Eo X st .never := ps_imp ps_never fun D σ H ⟨F, Z0, hd, hc, ρ, s, R, hp⟩ => hp
theorem js_ret (h : JE g Eo X true e x) : JS g Eo X (.Return (some e) pos) (.ret x) := by
  refine ps_imp (ps_ret h) fun D σ H ⟨F, Z0, hd, hc, ρ, s, R, hp⟩ => ⟨F, Z0, hd, hc, ρ, s, R, PostS.bnd (k := fun x => M.ret (.rt x)) R.ext hp fun y s1 v H1 _ e1 h1 r1 hp1 => ?_⟩
  exact hp1 v H1 (R.ext.trans e1) h1 r1
theorem js_retN : JS g Eo X (.Return none pos) (.ret (.c .none)) := ps_imp ps_retN fun D σ H ⟨F, Z0, hd, hc, ρ, s, R, hp⟩ => hp .non H R.ext R.hand .non
theorem js_drop (h : JE g Eo X true e x) (hn : isComp e = false) : JS g Eo X (.Expr e pos) (.drop x) := by
  refine ps_imp (ps_expr h (sw_no hn _ _ _)) fun D σ H ⟨F, Z0, hd, hc, ρ, s, R, hp⟩ => ⟨F, Z0, hd, hc, ρ, s, R, PostS.bnd (k := fun _ => M.ret (.nx ρ)) R.ext hp fun y s1 v H1 _ e1 h1 r1 hp1 => ?_⟩
  exact hp1 σ H1 (R.step e1 h1)
theorem js_ite {p q : List Stmt} {ys zs : List St} (hcc : JT g Eo X c xc) (ha : JSs g Eo X p ys) (hb : JSs g Eo X q zs) : JS g Eo X (.If c p q pos) (.ite xc ys zs) := by
  refine ps_imp (ps_if hcc ha hb) fun D σ H ⟨F, Z0, hd, hc, ρ, s, R, hp⟩ => ⟨F, Z0, hd, hc, ρ, s, R, ?_⟩
  have hp : PostS g.XR Eo X.K F Z0 hd hc g.ms D (M.bnd (M.bnd (evE g.call xc ρ) tru) (fun t => if t then evSs g.call ys ρ else evSs g.call zs ρ) s) := by
    rw [bnd_assoc]; exact hp
  refine PostS.bnd R.ext hp fun t s1 k H1 _ e1 h1 r1 hp1 => ?_
  subst r1
  cases k with
  | true => rw [if_pos rfl]; exact ⟨F, Z0, hd, hc, ρ, s1, R.step e1 h1, hp1⟩
  | false => rw [if_neg Bool.false_ne_true]; exact ⟨F, Z0, hd, hc, ρ, s1, R.step e1 h1, hp1⟩
/-! ### stores -/
theorem js_set {i : Nat} {te : TE} (h : PS X st (tAsg te (gName i))) (k : ∀ σ H Q, tE g Eo X.K fl x σ H Q → te σ H Q) (hi : i ∉ g.ms) : JS g Eo X st (.set fl i x) := by
  refine ps_imp h fun D σ H ⟨F, Z0, hd, hc, ρ, s, R, hp⟩ => k σ H _ ⟨F, Z0, hd, hc, ρ, s, R, PostS.bnd (k := fun y => if flatOk fl y then M.ret (.nx (setSlot ρ i y)) else bad) R.ext hp fun y s1 v H1 _ e1 h1 r1 hp1 => ?_⟩
  have R1 := R.step e1 h1
  split at hp1
  · rename_i f
    exact hp1 _ H1 (R1.set1 hi (R1.storable r1 f))
  · exact hp1.elim
def evL (call : Nat → List SV → M SV) (x : Ex) (ρ : Env) : M (List PyData) := M.bnd (evE call x ρ) listOf
/-- a list just made -/
def tF (g : Sg) (Eo : XK) (K : PySem.W.Frag) (x : Ex) : TE := fun σ H Q => ∃ F Z0 hd hc ρ s, Rel K F Z0 hd hc g.ms ρ s σ H ∧
  Post g.XR Eo hd hc H (fun H' v ds => ∃ a ys, v = .ref a ∧ H' a = some (.lst ys) ∧ ys.length ≤ sizeLine ∧ Reps K H' (fun b => Zf Z0 hd g.ms ρ σ b ∨ b = a) ys ds ∧ H a = none) Q (evL g.call x ρ s)
abbrev JF (g : Sg) (Eo : XK) (X : Cx) (e : Expr) (x : Ex) : Prop := PE X e (tF g Eo X.K x)
theorem js_setL {i : Nat} {te : TE} (h : PS X st (tAsg te (gName i))) (k : ∀ σ H Q, tF g Eo X.K x σ H Q → te σ H Q) (hi : i ∈ g.ms) : JS g Eo X st (.setL i x) := by
  refine ps_imp h fun D σ H ⟨F, Z0, hd, hc, ρ, s, R, hp⟩ => k σ H _ ⟨F, Z0, hd, hc, ρ, s, R, ?_⟩
  have hp : PostS g.XR Eo X.K F Z0 hd hc g.ms D (M.bnd (evL g.call x ρ) (fun ds => M.ret (.nx (setSlot ρ i (.d (.list ds))))) s) := by
    unfold evL; rw [bnd_assoc]; exact hp
  refine PostS.bnd R.ext hp fun ds s1 v H1 _ e1 h1 r1 hp1 => ?_
  obtain ⟨a, ys, rfl, h2, h3, h4, h5⟩ := r1
  exact hp1 _ H1 (R.fresh hi e1 h1 h5 h2 h3 h4)
theorem Post.listOf {XR : XRep} {hd hc : Addr} {H : Hp} {γ δ : Type} {x : SV} {k : List PyData → M γ} {s : Hand} {Rq : Hp → δ → γ → Prop} {Q : δ → Hp → Prop} (h : Post XR Eo hd hc H Rq Q (M.bnd (Wv.listOf x) k s)) : ∃ ds, x = .d (.list ds) ∧ Post XR Eo hd hc H Rq Q (k ds s) := by
  cases x with
  | d p =>
    cases p <;> first | exact h.elim | exact ⟨_, rfl, h⟩
  | hand => exact h.elim
theorem jf_lst {es : List Expr} {xs : List Ex} (hz : xs.length ≤ sizeLine) (h : JD g Eo X false es xs) : JF g Eo X (.List es pos) (.lst xs) := by
  refine pe_imp (pe_lst h) fun σ H Q ⟨F, Z0, hd, hc, ρ, s, R, hp⟩ => ⟨F, Z0, hd, hc, ρ, s, R, ?_⟩
  unfold evL at hp
  have hp : Post g.XR Eo hd hc H (fun H' v ds => ∃ a ys, v = .ref a ∧ H' a = some (.lst ys) ∧ ys.length ≤ sizeLine ∧ Reps X.K H' (fun b => Zf Z0 hd g.ms ρ σ b ∨ b = a) ys ds ∧ H a = none) Q (M.bnd (evDs g.call xs ρ) (fun ds => M.ret ds) s) := by
    have e : M.bnd (evE g.call (.lst xs) ρ) Wv.listOf = M.bnd (evDs g.call xs ρ) (fun ds => M.ret ds) := by
      show M.bnd (M.bnd (evDs g.call xs ρ) fun ds => M.ret (SV.d (.list ds))) Wv.listOf = _
      rw [bnd_assoc]
      rfl
    rw [← e]; exact hp
  refine Post.bnd hp fun ds s1 vs H1 ev e1 h1 r1 hp1 => ?_
  have hl : vs.length ≤ sizeLine := by rw [r1.length, evDs_len ev]; exact hz
  refine ⟨hl, fun p hp2 => ?_⟩
  have n : H p = none := by
    cases q : H p with
    | none => rfl
    | some o =>
      by_cases z : p = hd
      · rw [z, h1.at_] at hp2; cases hp2
      · rw [e1 p o q z] at hp2; cases hp2
  exact hp1 _ _ (Ext.upd hp2) (h1.upd hp2) ⟨p, vs, rfl, upd_same, hl, (Reps.more (Z := Zf Z0 hd g.ms ρ σ) (fun b z => z.imp id fun q => by rw [q]; exact hp2) r1).mono (Ext.upd (hd := hd) hp2) (.inl Zf.has), n⟩
theorem jf_mul (ha : JE g Eo X false a xa) (hb : JE g Eo X true b xb) : JF g Eo X (.BinOp a .Mult b pos) (.bin .mul xa xb) := by
  refine pe_imp (pe_op (op_rep (X := X)) ha hb) fun σ H Q ⟨F, Z0, hd, hc, ρ, s, R, hp⟩ => ⟨F, Z0, hd, hc, ρ, s, R, ?_⟩
  have hp : Post g.XR Eo hd hc H (fun H' v ds => ∃ a ys, v = .ref a ∧ H' a = some (.lst ys) ∧ ys.length ≤ sizeLine ∧ Reps X.K H' (fun b => Zf Z0 hd g.ms ρ σ b ∨ b = a) ys ds ∧ H a = none) Q
      (M.bnd (toD (evE g.call xa ρ)) (fun x => M.bnd (toD (evE g.call xb ρ)) fun y => M.bnd (retD (binop .mul x y)) Wv.listOf) s) := by
    have e : evL g.call (.bin .mul xa xb) ρ = M.bnd (toD (evE g.call xa ρ)) (fun x => M.bnd (toD (evE g.call xb ρ)) fun y => M.bnd (retD (binop .mul x y)) Wv.listOf) := by
      show M.bnd (M.bnd (toD (evE g.call xa ρ)) fun x => M.bnd (toD (evE g.call xb ρ)) fun y => retD (binop .mul x y)) Wv.listOf = _
      rw [bnd_assoc]
      congr 1
      funext x
      rw [bnd_assoc]
    rw [← e]; exact hp
  refine Post.bndD hp fun d s1 v H1 _ e1 h1 r1 hp1 => ?_
  refine ⟨F, Z0, hd, hc, ρ, s1, R.step e1 h1, Post.bndD hp1 fun d2 s2 w H2 _ e2 h2 r2 hp2 => ?_⟩
  have r1 : Rep X.K H2 (Zf Z0 hd g.ms ρ σ) v d := Rep.mono e2 Zf.has r1
  cases hr : binop .mul d d2 with
  | none => rw [hr] at hp2; exact hp2.elim
  | some r =>
    rw [hr] at hp2
    obtain ⟨ds, e3, hp3⟩ := Post.listOf (x := .d r) (k := fun ds => M.ret ds) (by
      have e : M.bnd (Wv.listOf (.d r)) (fun ds => M.ret ds) = Wv.listOf (.d r) := by
        cases r <;> rfl
      rw [e]; exact hp2)
    cases e3
    cases d <;> cases d2 <;> try (simp [binop] at hr; done)
    simp only [binop] at hr
    split at hr
    · rename_i hz
      cases hr
      simp only [repOk, Bool.and_eq_true, decide_eq_true_eq] at hz
      obtain ⟨l, xs, rfl, h3, _, z1, r3⟩ := r1.list
      rw [← r3.length] at hz
      refine ⟨l, _, xs, rfl, rep_int r2, h3, hz.1.1, hz.1.2, hz.2, fun p hp2 => ?_⟩
      have n : H p = none := by
        cases q : H p with
        | none => rfl
        | some o =>
          by_cases z : p = hd
          · rw [z, h2.at_] at hp2; cases hp2
          · rw [e2 p o (e1 p o q z) z] at hp2; cases hp2
      exact hp3 _ _ (Ext.upd hp2) (h2.upd hp2) ⟨p, _, rfl, upd_same, by rw [len_rep, Nat.mul_comm]; exact hz.2, (Reps.more (Z := Zf Z0 hd g.ms ρ σ) (fun b z => z.imp id fun q => by rw [q]; exact hp2) (r3.rep _)).mono (Ext.upd (hd := hd) hp2) (.inl Zf.has), n⟩
    · cases hr
theorem js_move {i j : Nat} (h : PS X st (tAsg (tVar j) (gName i))) (hi : i ∉ g.ms) (hj : j ∈ g.ms) : JS g Eo X st (.move i j) := by
  refine ps_imp h fun D σ H ⟨F, Z0, hd, hc, ρ, s, R, hp⟩ => ?_
  obtain ⟨ds, hx, hp⟩ := PostS.slotL (k := fun ds => M.ret (.nx ((setSlot ρ i (.d (.list ds))).set j none))) hp
  obtain ⟨v, hv, ⟨l, xs, ds', e1, e2, _⟩⟩ := R.own j _ hj hx
  subst e2
  exact ⟨_, hv, hp _ H (R.give hi hj hx hv)⟩
theorem setSs_one (ρ : Env) (i : Nat) (is : List Nat) (x : SV) (xs : List SV) : setSs ρ (i :: is) (x :: xs) = setSs (setSlot ρ i x) is xs := rfl
theorem js_par2 {i j : Nat} {es : List Expr} {xs : List Ex} {ta : TA} (h : PS X st (tPar i j ta)) (k : ∀ σ H Q, tAs g Eo X.K false xs σ H Q → ta σ H Q) (hi : i ∉ g.ms) (hj : j ∉ g.ms) : JS g Eo X st (.par [i, j] xs) := by
  refine ps_imp h fun D σ H ⟨F, Z0, hd, hc, ρ, s, R, hp⟩ => k σ H _ ⟨F, Z0, hd, hc, ρ, s, R, PostS.bnd (k := fun xs => if xs.length = [i, j].length then M.ret (.nx (setSs ρ [i, j] xs)) else bad) R.ext hp fun ys s1 vs H1 _ e1 h1 r1 hp1 => ?_⟩
  have R1 := R.step e1 h1
  split at hp1
  · match ys, vs, r1 with
    | [x, y], _, .cons (v := v) r1 (.cons (v := w) r2 .nil) =>
      refine ⟨v, w, rfl, hp1 _ H1 ?_⟩
      have same : ∀ l ∈ g.ms, ρ[l]? = (ρ.set i (some x))[l]? ∧ σ[l]? = (σ.set i (some v))[l]? := fun l hl => by
        have : i ≠ l := fun q => hi (q ▸ hl)
        rw [List.getElem?_set_ne this, List.getElem?_set_ne this]; exact ⟨rfl, rfl⟩
      exact (R1.set1 hi r1).set1 hj (r2.less fun a z => Zf.same (same_symm same) z)
    | [], _, _ => simp at *
    | [_], _, _ => simp at *
    | _ :: _ :: _ :: _, _, _ => simp at *
  · exact hp1.elim
theorem js_par3 {i j l : Nat} {es : List Expr} {xs : List Ex} {ta : TA} (h : PS X st (tPar3 i j l ta)) (k : ∀ σ H Q, tAs g Eo X.K false xs σ H Q → ta σ H Q) (hi : i ∉ g.ms) (hj : j ∉ g.ms) (hl : l ∉ g.ms) : JS g Eo X st (.par [i, j, l] xs) := by
  refine ps_imp h fun D σ H ⟨F, Z0, hd, hc, ρ, s, R, hp⟩ => k σ H _ ⟨F, Z0, hd, hc, ρ, s, R, PostS.bnd (k := fun xs => if xs.length = [i, j, l].length then M.ret (.nx (setSs ρ [i, j, l] xs)) else bad) R.ext hp fun ys s1 vs H1 _ e1 h1 r1 hp1 => ?_⟩
  have R1 := R.step e1 h1
  split at hp1
  · match ys, vs, r1 with
    | [x, y, z], _, .cons (v := v) r1 (.cons (v := w) r2 (.cons (v := u) r3 .nil)) =>
      refine ⟨v, w, u, rfl, hp1 _ H1 ?_⟩
      have same : ∀ m ∈ g.ms, ρ[m]? = (ρ.set i (some x))[m]? ∧ σ[m]? = (σ.set i (some v))[m]? := fun m hm => by
        have : i ≠ m := fun q => hi (q ▸ hm)
        rw [List.getElem?_set_ne this, List.getElem?_set_ne this]; exact ⟨rfl, rfl⟩
      have same2 : ∀ m ∈ g.ms, ρ[m]? = ((ρ.set i (some x)).set j (some y))[m]? ∧ σ[m]? = ((σ.set i (some v)).set j (some w))[m]? := fun m hm => by
        have : j ≠ m := fun q => hj (q ▸ hm)
        rw [List.getElem?_set_ne this, List.getElem?_set_ne this]; exact same m hm
      exact ((R1.set1 hi r1).set1 hj (r2.less fun a z => Zf.same (same_symm same) z)).set1 hl (r3.less fun a z => Zf.same (same_symm same2) z)
    | [], _, _ => simp at *
    | [_], _, _ => simp at *
    | [_, _], _, _ => simp at *
    | _ :: _ :: _ :: _ :: _, _, _ => simp at *
  · exact hp1.elim
theorem js_unp {tgt : Tgt} {te : TE} (h : PS X st (tAsg te (tG X.K tgt))) (k : ∀ σ H Q, tE g Eo X.K fl x σ H Q → te σ H Q) (hi : ∀ i ∈ tgIx tgt, i ∉ g.ms) : JS g Eo X st (.unp fl tgt x) := by
  refine ps_imp h fun D σ H ⟨F, Z0, hd, hc, ρ, s, R, hp⟩ => k σ H _ ⟨F, Z0, hd, hc, ρ, s, R, PostS.bndD (k := fun y => if flatOk fl (.d y) then M.bnd (lift (bindT tgt y ρ)) fun ρ' => M.ret (.nx ρ') else bad) R.ext hp fun y s1 v H1 _ e1 h1 r1 hp1 => ?_⟩
  have R1 := R.step e1 h1
  split at hp1
  · rename_i f
    obtain ⟨ρ1, hb, hp1⟩ := PostS.lift hp1
    obtain ⟨l, hl, e4⟩ := Option.map_eq_some_iff.mp hb
    subst e4
    have r2 : Rep X.K H1 (Zf Z0 hd g.ms ρ σ) v y := R1.storable (x := .d y) r1 f
    exact tG_ok tgt y v l σ _ hl r2 fun l' pr => hp1 _ H1 (R1.setAll pr fun p hp => hi _ (bindL_ix tgt y l hl p hp))
  · exact hp1.elim
/-! ### owned lists, changed -/
theorem hfew1 {env : PySem.Env} {cpos : Pos} (hs : isStar e = false) : ((backTo cpos (starEach [e] env)).all (fun x => !x.1) && (backToKw cpos (keywordEach [] env)).all (fun x => x.1.isSome)
      && decide ([e].length + ([] : List Keyword).length + (if ([] : List Keyword).isEmpty then 0 else 1) < 30)) = true := by
  rw [star_eq hs]
  rfl
theorem ownSlot {K : PySem.W.Frag} {F H : Hp} {Z0 : Addr → Prop} {hd hc : Addr} {ms : List Nat} {ρ : Env} {s : Hand} {σ : L2.St} (R : Rel K F Z0 hd hc ms ρ s σ H) {i : Nat} (hi : i ∈ ms) {ds : List PyData} (hx : ρ[i]? = some (some (.d (.list ds)))) :
    ∃ l xs, σ[i]? = some (some (.ref l)) ∧ H l = some (.lst xs) ∧ xs.length ≤ sizeLine ∧ Reps K H (Zf Z0 hd ms ρ σ) xs ds ∧ l ≠ hd := by
  obtain ⟨v, hv, ⟨l, xs, ds', e1, e2, h1, h2, h3, _, _, h4, _⟩⟩ := R.own i _ hi hx
  cases e1
  cases e2
  exact ⟨l, xs, hv, h1, h2, h3, h4⟩
theorem js_app {i : Nat} {y : Str} {py apos cpos : Pos} (hN : X.N[i]? = some y) (hv : Vis X.env.scope y) (hdb : (y == ("__debug__" : Str)) = false) (hcd : (y == ("__classdict__" : Str)) = false) (hline : (apos.endLine == cpos.line) = true) (hs : isStar e = false) (hi : i ∈ g.ms) (he : JE g Eo X fl e x) :
    JS g Eo X (.Expr (.Call (.Attribute (.Name y py) "append" apos) [e] [] cpos) pos) (.app fl i x) := by
  refine ps_imp (ps_expr (pe_bm PySem.F.plainAttrs_list PySem.F.slot_list_append PySem.F.type_list_append mt_append (pe_var hN hv hdb hcd) (pa_cons he pa_nil (star_eq hs _ _)) rfl (hfew1 hs) hline (star_eq hs _ _) rfl) (sw_no rfl _ _ _)) fun D σ H ⟨F, Z0, hd, hc, ρ, s, R, hp⟩ => ?_
  obtain ⟨ds, hx, hp⟩ := PostS.slotL (k := fun ds => M.bnd (toD (evE g.call x ρ)) fun y => if flatOk fl (.d y) && decide (ds.length < sizeLine) then M.ret (.nx (setSlot ρ i (.d (.list (ds ++ [y]))))) else bad) hp
  obtain ⟨l, xs, hl, h1, h2, h3, h4⟩ := ownSlot R hi hx
  refine ⟨_, hl, .inl ⟨rfl, xs, SqL.of h1⟩, F, Z0, hd, hc, ρ, s, R, PostS.bndD R.ext hp fun d s1 v H1 _ e1 hh1 r1 hp1 => ?_⟩
  split at hp1
  · rename_i f
    simp only [Bool.and_eq_true, decide_eq_true_eq] at f
    have R1 := R.step e1 hh1
    have r2 : Rep X.K H1 (Zf Z0 hd g.ms ρ σ) v d := R1.storable (x := .d d) r1 f.1
    have hz : xs.length < sizeLine := by rw [h3.length]; exact f.2
    refine ⟨l, xs, v, rfl, rfl, e1 _ _ h1 h4, hz, hp1 σ _ ?_⟩
    exact R1.rewrite hi hx hl (by rw [List.length_append]; exact hz) ((h3.mono e1 Zf.has).append (.cons r2 .nil))
  · exact hp1.elim
theorem js_ext {i : Nat} {y : Str} {py apos cpos : Pos} (hN : X.N[i]? = some y) (hv : Vis X.env.scope y) (hdb : (y == ("__debug__" : Str)) = false) (hcd : (y == ("__classdict__" : Str)) = false) (hline : (apos.endLine == cpos.line) = true) (hs : isStar e = false) (hi : i ∈ g.ms) (he : JE g Eo X fl e x) :
    JS g Eo X (.Expr (.Call (.Attribute (.Name y py) "extend" apos) [e] [] cpos) pos) (.ext fl i x) := by
  refine ps_imp (ps_expr (pe_bm PySem.F.plainAttrs_list PySem.F.slot_list_extend PySem.F.type_list_extend mt_extend (pe_var hN hv hdb hcd) (pa_cons he pa_nil (star_eq hs _ _)) rfl (hfew1 hs) hline (star_eq hs _ _) rfl) (sw_no rfl _ _ _)) fun D σ H ⟨F, Z0, hd, hc, ρ, s, R, hp⟩ => ?_
  obtain ⟨ds, hx, hp⟩ := PostS.slotL (k := fun ds => M.bnd (toD (evE g.call x ρ)) fun y => match y with
    | .list zs => if flatOk fl (.d (.tuple zs)) && decide (ds.length + zs.length ≤ sizeLine) then M.ret (.nx (setSlot ρ i (.d (.list (ds ++ zs))))) else bad
    | _ => bad) hp
  obtain ⟨l, xs, hl, h1, h2, h3, h4⟩ := ownSlot R hi hx
  refine ⟨_, hl, .inl ⟨rfl, xs, SqL.of h1⟩, F, Z0, hd, hc, ρ, s, R, PostS.bndD R.ext hp fun d s1 v H1 _ e1 hh1 r1 hp1 => ?_⟩
  cases d <;> try exact hp1.elim
  rename_i zs _
  have hp1 : PostS g.XR Eo X.K F Z0 hd hc g.ms D ((if flatOk fl (.d (.tuple zs)) && decide (ds.length + zs.length ≤ sizeLine) then M.ret (.nx (setSlot ρ i (.d (.list (ds ++ zs))))) else bad : M Fl) s1) := hp1
  split at hp1
  · rename_i f
    simp only [Bool.and_eq_true, decide_eq_true_eq] at f
    have R1 := R.step e1 hh1
    have r1 : Rep X.K H1 (Zal fl Z0 hd g.ms ρ σ) v (.list zs) := r1
    obtain ⟨l2, ws, rfl, k1, k2, k3, k4⟩ := r1.list
    have r2 := R1.storables k4 f.1
    have hz : xs.length + ws.length ≤ sizeLine := by rw [h3.length, k4.length]; exact f.2
    refine ⟨l, l2, xs, ws, rfl, rfl, e1 _ _ h1 h4, k1, hz, hp1 σ _ ?_⟩
    exact R1.rewrite hi hx hl (by rw [List.length_append]; exact hz) ((h3.mono e1 Zf.has).append r2)
  · exact hp1.elim
theorem asg_sub {o i : Expr} {p : Pos} {env : PySem.Env} (h : isSl i = false) : ∀ v, assign (.Subscript o i p) env v = (do
      let ov ← holding [v] (eval o env)
      let iv ← holding [v, ov] (eval i env)
      standAt p
      holding [v, ov, iv] (setItem ov iv v)
      release [v, ov, iv] []) := by
  intro v
  cases i <;> first | rfl | (simp [isSl] at h)
theorem ixN_of {n : Nat} {ds : List PyData} {xs : List V} (h : xs.length = ds.length) (k : Int) : ixN xs.length k = ixN ds.length k := by rw [h]
theorem PostS.slotH {XR : XRep} {K : PySem.W.Frag} {F : Hp} {Z0 : Addr → Prop} {hd hc : Addr} {ms : List Nat} {D : Ends} {s : Hand} {ρ : Env} {i : Nat} {k : Unit → M Fl} (h : PostS XR Eo K F Z0 hd hc ms D (M.bnd (slotH ρ i) k s)) : ρ[i]? = some (some .hand) ∧ PostS XR Eo K F Z0 hd hc ms D (k () s) := by
  unfold Wv.slotH at h
  split at h
  · exact ⟨by assumption, h⟩
  · exact h.elim
theorem js_setH {i : Nat} {y : Str} {py sp : Pos} {k : Expr} {xk : Ex} (hN : X.N[i]? = some y) (hv : Vis X.env.scope y) (hdb : (y == ("__debug__" : Str)) = false) (hcd : (y == ("__classdict__" : Str)) = false) (hk : isSl k = false) (hn : isComp e = false) (he : JE g Eo X true e x) (hkk : JE g Eo X true k xk)
    (hw : swappedStores [.Subscript (.Name y py) k sp] e X.env = pure none) (h1 : (assignEach [.Subscript (.Name y py) k sp] X.env).map (·.2) = [assign (.Subscript (.Name y py) k sp) X.env]) : JS g Eo X (.Assign [.Subscript (.Name y py) k sp] e pos) (.setH i xk x) := by
  refine ps_imp (ps_asg he (pg_sub (pe_var hN hv hdb hcd) hkk set_list (asg_sub hk)) (sws_no hn _ _ _) hw h1) fun D σ H ⟨F, Z0, hd, hc, ρ, s, R, hp⟩ => ?_
  refine ⟨F, Z0, hd, hc, ρ, s, R, PostS.bndD (k := fun y => M.bnd (slotH ρ i) fun _ => M.bnd (toD (evE g.call xk ρ)) fun k => hset k y ρ) R.ext hp fun d s1 v H1 _ e1 hh1 r1 hp1 => ?_⟩
  have R1 := R.step e1 hh1
  obtain ⟨hx, hp1⟩ := hp1.slotH
  have hi : i ∉ g.ms := fun hi => by
    obtain ⟨v, hv, ⟨l, xs, ds', e1, _⟩⟩ := R.own i _ hi hx
    cases e1
  obtain ⟨w, hw, rw'⟩ := R.sh i _ hi hx
  cases rw'
  refine ⟨_, hw, F, Z0, hd, hc, ρ, s1, R1, PostS.bndD (k := fun k => hset k d ρ) R1.ext hp1 fun d2 s2 w H2 _ e2 hh2 r3 hp2 => ?_⟩
  have R2 := R1.step e2 hh2
  have hp2 : PostS g.XR Eo X.K F Z0 hd hc g.ms D (hset d2 d ρ s2) := hp2
  unfold hset at hp2
  cases d2 <;> try exact hp2.elim
  rename_i n _ _
  simp only at hp2
  cases q : Wv.handSet s2 n d with
  | none => rw [q] at hp2; exact hp2.elim
  | some s3 =>
    rw [q] at hp2
    obtain ⟨j, hj, R3⟩ := R2.handSet (Rep.mono e2 (Zal.has true) r1) q
    exact ⟨hd, _, n, j, rfl, rep_int r3, R2.hand.at_, hj, hp2 σ _ R3⟩
theorem js_seti {i : Nat} {y : Str} {py sp : Pos} {k : Expr} {xk : Ex} (hN : X.N[i]? = some y) (hv : Vis X.env.scope y) (hdb : (y == ("__debug__" : Str)) = false) (hcd : (y == ("__classdict__" : Str)) = false) (hk : isSl k = false) (hn : isComp e = false) (he : JE g Eo X fl e x) (hkk : JE g Eo X true k xk) (hi : i ∈ g.ms)
    (hw : swappedStores [.Subscript (.Name y py) k sp] e X.env = pure none) (h1 : (assignEach [.Subscript (.Name y py) k sp] X.env).map (·.2) = [assign (.Subscript (.Name y py) k sp) X.env]) : JS g Eo X (.Assign [.Subscript (.Name y py) k sp] e pos) (.seti fl i xk x) := by
  refine ps_imp (ps_asg he (pg_sub (pe_var hN hv hdb hcd) hkk set_list (asg_sub hk)) (sws_no hn _ _ _) hw h1) fun D σ H ⟨F, Z0, hd, hc, ρ, s, R, hp⟩ => ?_
  refine ⟨F, Z0, hd, hc, ρ, s, R, PostS.bndD (k := fun y => if flatOk fl (.d y) then M.bnd (slotL ρ i) fun ds => M.bnd (toD (evE g.call xk ρ)) fun k => setiM i k y ds ρ else bad) R.ext hp fun d s1 v H1 _ e1 hh1 r1 hp1 => ?_⟩
  split at hp1
  · rename_i f
    have R1 := R.step e1 hh1
    have r2 : Rep X.K H1 (Zf Z0 hd g.ms ρ σ) v d := R1.storable (x := .d d) r1 f
    obtain ⟨ds, hx, hp1⟩ := PostS.slotL hp1
    obtain ⟨l, xs, hl, k1, k2, k3, k4⟩ := ownSlot R1 hi hx
    refine ⟨_, hl, F, Z0, hd, hc, ρ, s1, R1, PostS.bndD (k := fun k => setiM i k d ds ρ) R1.ext hp1 fun d2 s2 w2 H2 _ e2 hh2 r3 hp2 => ?_⟩
    cases d2 <;> try exact hp2.elim
    obtain ⟨ds', hs, hp3⟩ := PostS.lift (k := fun ds' => M.ret (.nx (setSlot ρ i (.d (.list ds'))))) hp2
    unfold setIdx at hs
    obtain ⟨j, hj, rfl⟩ := Option.map_eq_some_iff.mp hs
    refine ⟨l, xs, _, j, rfl, rep_int r3, e2 _ _ k1 k4, by rw [k3.length]; exact hj, hp3 σ _ ?_⟩
    exact (R1.step e2 hh2).rewrite hi hx hl (by rw [List.length_set]; exact k2) ((k3.mono e2 Zf.has).set (r2.mono e2 Zf.has) j)
  · exact hp1.elim
/-! ### op= -/
theorem js_aug {i : Nat} {y : Str} {py : Pos} {op : Operator} {o : Bop} (hN : X.N.Nodup) (hy : X.N[i]? = some y) (hx : Loc X.env.scope y) (hf : X.fn y = true ∨ X.env.scope.names.lookup y = some .local) (he : JE g Eo X true e x) (ho : (op = .Add ∧ o = .add) ∨ (op = .Sub ∧ o = .sub)) (hi : i ∉ g.ms) :
    JS g Eo X (.AugAssign (.Name y py) op e pos) (.aug i o x) := by
  have fin : ∀ {f : Int → Int → Int}, PIp X op (ipI f) → (∀ d d2 z, augop o d d2 = some z → ∃ i j, d = .int i ∧ d2 = .int j ∧ z = .int (f i j)) → JS g Eo X (.AugAssign (.Name y py) op e pos) (.aug i o x) := fun {f} hop hq => by
    refine ps_imp (ps_aug hN hy hx he hop hf) fun D σ H ⟨F, Z0, hd, hc, ρ, s, R, hp⟩ => ?_
    obtain ⟨d, hx, hp⟩ := PostS.slotD (k := fun x' => M.bnd (toD (evE g.call x ρ)) fun y => M.bnd (lift (augop o x' y)) fun z => M.ret (.nx (setSlot ρ i (.d z)))) hp
    obtain ⟨v, hv, r⟩ := R.sh i _ hi hx
    refine ⟨v, hv, F, Z0, hd, hc, ρ, s, R, PostS.bndD R.ext hp fun d2 s1 w H1 _ e1 hh1 r1 hp1 => ?_⟩
    obtain ⟨z, hz, hp2⟩ := PostS.lift hp1
    obtain ⟨m, n, rfl, rfl, rfl⟩ := hq _ _ _ hz
    refine ⟨m, n, rep_int r, rep_int r1, hp2 _ H1 ((R.step e1 hh1).set1 (x := .d (.int _)) hi (.int _))⟩
  rcases ho with ⟨rfl, rfl⟩ | ⟨rfl, rfl⟩
  · exact fin ip_add fun d d2 z h => by
      cases d <;> cases d2 <;> simp [augop] at h
      exact ⟨_, _, rfl, rfl, h.symm⟩
  · exact fin ip_sub fun d d2 z h => by
      cases d <;> cases d2 <;> simp [augop] at h
      exact ⟨_, _, rfl, rfl, h.symm⟩
theorem get_list : PGet X (rIxL X.K) := by
  intro pins s σ H o i ov iv Q I ro ri h
  obtain ⟨p, xs, k, z, rfl, rfl, hq, he, q⟩ := h
  cases ro
  obtain ⟨t, rfl⟩ := ri
  obtain ⟨its, r, pl, hz⟩ := I.list hq
  obtain ⟨j, h1, h2, h3, h4, h5⟩ := atI_get he
  obtain ⟨w, ew, rw'⟩ := r.get h2
  have hl := r.length
  have hn := line63
  have fin : EP X pins σ Q w s := ⟨z, H, I, rw', q⟩
  by_cases h0 : 0 ≤ k
  · have hj : k.toNat = j := by
      rw [seqIndex_of h0 h5] at h1
      exact Option.some.inj h1
    exact wpAny_getItem_list pl.isList h0 (by omega) (by rw [hj]; simpa using ew) fin
  · have hj : (k + (its.toArray.size : Int)).toNat = j := by
      rw [seqIndex_neg (by omega) h4] at h1
      rw [List.size_toArray, ← hl]
      exact Option.some.inj h1
    exact wpAny_getItem_list_neg pl.isList (by omega) (by rw [List.size_toArray] <;> omega) (by omega) (by rw [hj]; simpa using ew) fin
theorem aug_sub {o i : Expr} (h : isSl i = false) : ∀ ov iv new, augStore i ov iv new = (do holding [new, ov, iv] (setItem ov iv new); release [new, ov, iv] []; pure .next) := by
  intro ov iv new
  cases i <;> first | rfl | (simp [isSl] at h)
theorem js_augi {i : Nat} {y : Str} {py sp : Pos} {k : Expr} {xk : Ex} {op : Operator} {o : Bop} (hN : X.N[i]? = some y) (hv : Vis X.env.scope y) (hdb : (y == ("__debug__" : Str)) = false) (hcd : (y == ("__classdict__" : Str)) = false) (hk : isSl k = false) (he : JE g Eo X true e x) (hkk : JE g Eo X true k xk) (hi : i ∈ g.ms)
    (ho : (op = .Add ∧ o = .add) ∨ (op = .Sub ∧ o = .sub)) : JS g Eo X (.AugAssign (.Subscript (.Name y py) k sp) op e pos) (.augi i xk o x) := by
  have fin : ∀ {f : Int → Int → Int}, PIp X op (ipI f) → (∀ d d2 z, augop o d d2 = some z → ∃ i j, d = .int i ∧ d2 = .int j ∧ z = .int (f i j)) → JS g Eo X (.AugAssign (.Subscript (.Name y py) k sp) op e pos) (.augi i xk o x) := fun {f} hop hq => by
    refine ps_imp (ps_augS (pe_var hN hv hdb hcd) hkk get_list he hop set_list (aug_sub (o := k) hk)) fun D σ H ⟨F, Z0, hd, hc, ρ, s, R, hp⟩ => ?_
    obtain ⟨ds, hx, hp⟩ := PostS.slotL (k := fun ds => M.bnd (toD (evE g.call xk ρ)) fun k => match k with
      | .int k => M.bnd (lift (idxN ds k)) fun x' => M.bnd (toD (evE g.call x ρ)) fun y => M.bnd (lift (augop o x' y)) fun z =>
        M.bnd (lift (setIdx ds k z)) fun ds' => M.ret (.nx (setSlot ρ i (.d (.list ds'))))
      | _ => bad) hp
    obtain ⟨l, xs, hl, k1, k2, k3, k4⟩ := ownSlot R hi hx
    refine ⟨_, hl, F, Z0, hd, hc, ρ, s, R, PostS.bndD R.ext hp fun d2 s1 w H1 _ e1 hh1 r1 hp1 => ?_⟩
    have R1 := R.step e1 hh1
    cases d2 <;> try exact hp1.elim
    rename_i n _
    obtain ⟨d, hd1, hp1⟩ := PostS.lift (o := idxN ds n) hp1
    obtain ⟨u, hu, ru⟩ := k3.atI hd1
    refine ⟨l, xs, n, u, rfl, rep_int r1, SqL.of (e1 _ _ k1 k4), hu, F, Z0, hd, hc, ρ, s1, R1, PostS.bndD R1.ext hp1 fun d3 s2 w2 H2 _ e2 hh2 r2 hp2 => ?_⟩
    have R2 := R1.step e2 hh2
    obtain ⟨z, hz, hp2⟩ := PostS.lift (o := augop o d d3) hp2
    obtain ⟨m1, m2, rfl, rfl, rfl⟩ := hq _ _ _ hz
    obtain ⟨ds', hs, hp3⟩ := PostS.lift (k := fun ds' => M.ret (.nx (setSlot ρ i (.d (.list ds'))))) hp2
    unfold setIdx at hs
    obtain ⟨j, hj, rfl⟩ := Option.map_eq_some_iff.mp hs
    refine ⟨m1, m2, rep_int ru, rep_int r2, l, xs, n, j, rfl, rep_int r1, e2 _ _ (e1 _ _ k1 k4) k4, by rw [k3.length]; exact hj, hp3 σ _ ?_⟩
    exact R2.rewrite hi hx hl (by rw [List.length_set]; exact k2) (((k3.mono e1 Zf.has).mono e2 Zf.has).set (.int _) j)
  rcases ho with ⟨rfl, rfl⟩ | ⟨rfl, rfl⟩
  · exact fin ip_add fun d d2 z h => by
      cases d <;> cases d2 <;> simp [augop] at h
      exact ⟨_, _, rfl, rfl, h.symm⟩
  · exact fin ip_sub fun d d2 z h => by
      cases d <;> cases d2 <;> simp [augop] at h
      exact ⟨_, _, rfl, rfl, h.symm⟩
/-! ### loops -/
theorem js_whl {body : List Stmt} {ys : List St} (hp : PassesOwn (model X.prog X.w) X.A X.env X.xe) (hcc : JT g Eo X c xc) (hb : JSs g Eo X body ys) : JS g Eo X (.While c body [] pos) (.whl xc ys) := by
  refine ps_imp (ps_while hp hcc hb) fun D σ H ⟨F, Z0, hd, hc, ρ, s, R, hpo⟩ => ?_
  refine ⟨fun m σ H => ∃ ρ s, Rel X.K F Z0 hd hc g.ms ρ s σ H ∧ PostS g.XR Eo X.K F Z0 hd hc g.ms D (whlL (fun ρ => M.bnd (evE g.call xc ρ) tru) (evSs g.call ys) m ρ s), ⟨whlFuel, ρ, s, R, hpo⟩, ?_⟩
  rintro m σ H ⟨ρ, s, R, hpo⟩
  cases m with
  | zero => exact hpo.elim
  | succ m =>
    refine ⟨F, Z0, hd, hc, ρ, s, R, PostS.bnd (k := fun b => if b then M.bnd (evSs g.call ys ρ) fun f => match f with
      | .nx ρ2 => whlL (fun ρ => M.bnd (evE g.call xc ρ) tru) (evSs g.call ys) m ρ2
      | .ct ρ2 => whlL (fun ρ => M.bnd (evE g.call xc ρ) tru) (evSs g.call ys) m ρ2
      | .bk ρ2 => M.ret (.nx ρ2)
      | .rt v => M.ret (.rt v)
      else M.ret (.nx ρ)) R.ext hpo fun t s1 b H1 _ e1 h1 r1 hp1 => ?_⟩
    subst r1
    have R1 := R.step e1 h1
    cases b with
    | false =>
      rw [if_neg Bool.false_ne_true]
      exact hp1 σ H1 R1
    | true =>
      rw [if_pos rfl]
      rw [if_pos rfl] at hp1
      refine ⟨fun σ H => ∃ ρ s, Rel X.K F Z0 hd hc g.ms ρ s σ H ∧ PostS g.XR Eo X.K F Z0 hd hc g.ms D (whlL (fun ρ => M.bnd (evE g.call xc ρ) tru) (evSs g.call ys) m ρ s), fun σ' H' w => ⟨m, Nat.lt_succ_self m, w⟩, F, Z0, hd, hc, ρ, s1, R1, ?_⟩
      unfold M.bnd at hp1
      cases q : evSs g.call ys ρ s1 with
      | ok f s2 =>
        rw [q] at hp1
        cases f with
        | nx ρ2 => exact fun σ2 H2 R2 => ⟨ρ2, s2, R2, hp1⟩
        | ct ρ2 => exact fun σ2 H2 R2 => ⟨ρ2, s2, R2, hp1⟩
        | bk ρ2 => exact hp1
        | rt v => exact hp1
      | ex c as s2 => rw [q] at hp1; exact hp1
      | bad => rw [q] at hp1; exact hp1
/-- a later ground: all that stands, but the owned lists -/
theorem Rel.ground {K : PySem.W.Frag} {F H : Hp} {Z0 : Addr → Prop} {hd hc : Addr} {ms : List Nat} {ρ : Env} {s : Hand} {σ : L2.St} (R : Rel K F Z0 hd hc ms ρ s σ H) : ∃ F', Rel K F' Z0 hd hc ms ρ s σ H ∧ Ext hd F F' ∧ (∀ ρ s σ H, Rel K F' Z0 hd hc ms ρ s σ H → Rel K F Z0 hd hc ms ρ s σ H) ∧
    (∀ b o, H b = some o → ¬ Zf Z0 hd ms ρ σ b → F' b = some o) := by
  have key : ∃ F' : Hp, ∀ b, (Zf Z0 hd ms ρ σ b → F' b = F b) ∧ (¬ Zf Z0 hd ms ρ σ b → F' b = H b) := by
    have : ∀ b, ∃ o : Option HO, (Zf Z0 hd ms ρ σ b → o = F b) ∧ (¬ Zf Z0 hd ms ρ σ b → o = H b) := fun b => by
      by_cases h : Zf Z0 hd ms ρ σ b
      · exact ⟨F b, fun _ => rfl, fun n => absurd h n⟩
      · exact ⟨H b, fun z => absurd z h, fun _ => rfl⟩
    exact ⟨fun b => (this b).choose, fun b => (this b).choose_spec⟩
  obtain ⟨F', hF⟩ := key
  have ex : Ext hd F F' := fun b o e n => by
    by_cases h : Zf Z0 hd ms ρ σ b
    · rw [(hF b).1 h]; exact e
    · rw [(hF b).2 h]; exact R.ext b o e n
  refine ⟨F', ?_, ex, fun ρ s σ H R' => ?_, fun b o e n => by rw [(hF b).2 n]; exact e⟩
  · exact {
      ext := fun b o e n => by
        by_cases h : Zf Z0 hd ms ρ σ b
        · rw [(hF b).1 h] at e; exact R.ext b o e n
        · rw [(hF b).2 h] at e; exact e
      tr := R.tr
      hand := R.hand
      nc := R.nc
      sh := R.sh
      own := fun i x hi hx => by
        obtain ⟨v, h1, ⟨a, xs, ds, e1, e2, h2, h3, h4, h5, h6⟩⟩ := R.own i x hi hx
        exact ⟨v, h1, ⟨a, xs, ds, e1, e2, h2, h3, h4, by rw [(hF a).1 (.inr (.inr ⟨i, hi, ⟨x, hx⟩, by rw [h1, e2]⟩))]; exact h5, h6⟩⟩
      dis := R.dis
      len := R.len }
  · exact {
      ext := ex.trans R'.ext
      tr := R'.tr
      hand := R'.hand
      nc := R'.nc
      sh := R'.sh
      own := fun i x hi hx => by
        obtain ⟨v, h1, ⟨a, xs, ds, e1, e2, h2, h3, h4, h5, h6, h7⟩⟩ := R'.own i x hi hx
        refine ⟨v, h1, ⟨a, xs, ds, e1, e2, h2, h3, h4, ?_, h6, h7⟩⟩
        cases q : F a with
        | none => rfl
        | some o => rw [ex a o q h7.1] at h5; cases h5
      dis := R'.dis
      len := R'.len }
theorem js_for {iter : Expr} {body : List Stmt} {ys : List St} {tgt : Tgt} {it : It} (hp : PassesOwn (model X.prog X.w) X.A X.env X.xe) (hcal : X.calm = true) (hi : JI g Eo X false tg iter it) (hg : PG X tg (tG X.K tgt)) (hb : JSs g Eo X body ys)
    (hix : ∀ i ∈ tgIx tgt, i ∉ g.ms) (hfs : ∀ x, foldedSetIterable iter X.env x = pure x) : JS g Eo X (.For tg iter body [] pos) (.for_ tgt it ys) := by
  refine ps_imp (ps_for hp hcal hi hg hb hfs) fun D σ H ⟨F, Z0, hd, hc, ρ, s, R, hpo⟩ => ⟨F, Z0, hd, hc, ρ, s, R, PostS.bnd (k := fun xs => forL tgt (evSs g.call ys) xs ρ) R.ext hpo fun ds s1 J H1 _ e1 h1 wk hp1 => ?_⟩
  have R0 := R.step e1 h1
  obtain ⟨F', R1, exF, back, grd⟩ := R0.ground
  refine ⟨fun i m σ' H' => m = ds.length - i ∧ i ≤ ds.length ∧ ∃ ρ' s', Rel X.K F' Z0 hd hc g.ms ρ' s' σ' H' ∧ PostS g.XR Eo X.K F Z0 hd hc g.ms D (forL tgt (evSs g.call ys) (ds.drop i) ρ' s'), ⟨ds.length, by simp, Nat.zero_le _, ρ, s1, R1, by simpa using hp1⟩, ?_⟩
  rintro i m σ' H' ⟨rfl, hi', ρ', s', R', hp'⟩
  have stay : Stay (Zal false Z0 hd g.ms ρ σ) H1 H' := fun b o e n => R'.ext b o (grd b o e n) fun z => n (by rw [z]; exact Zf.has)
  by_cases hlt : i < ds.length
  · refine .inr ?_
    have hd' : ds[i]? = some ds[i] := List.getElem?_eq_getElem hlt
    generalize ds[i] = d at hd'
    have hdrop : ds.drop i = d :: ds.drop (i + 1) := by
      rw [List.drop_eq_getElem_cons hlt]
      rw [List.getElem?_eq_getElem hlt] at hd'
      rw [Option.some.inj hd']
    obtain ⟨go, yl⟩ := wk.item i H' d (Zf Z0 hd g.ms ρ' σ') (fun a z => by
      rcases z with z | z | z
      · exact .inl (.inl z)
      · exact .inl (.inr (.inl z))
      · have hf := (R'.ownAt z).2.1
        by_cases q : Zf Z0 hd g.ms ρ σ a
        · exact .inl q
        · refine .inr ?_
          cases q2 : H1 a with
          | none => rfl
          | some o => rw [grd a o q2 q] at hf; cases hf) stay R'.trf hd'
    rw [hdrop] at hp'
    have hp' : PostS g.XR Eo X.K F Z0 hd hc g.ms D (M.bnd (lift (bindT tgt d ρ')) (fun ρ1 => M.bnd (evSs g.call ys ρ1) fun f => match f with
      | .nx ρ2 => forL tgt (evSs g.call ys) (ds.drop (i + 1)) ρ2
      | .ct ρ2 => forL tgt (evSs g.call ys) (ds.drop (i + 1)) ρ2
      | .bk ρ2 => M.ret (.nx ρ2)
      | .rt v => M.ret (.rt v)) s') := hp'
    obtain ⟨ρ1, hb1, hp'⟩ := PostS.lift hp'
    obtain ⟨l, hl, e4⟩ := Option.map_eq_some_iff.mp hb1
    subst e4
    refine ⟨go, fun σ'' H'' => ∃ ρ'' s'', Rel X.K F' Z0 hd hc g.ms ρ'' s'' σ'' H'' ∧ PostS g.XR Eo X.K F Z0 hd hc g.ms D (forL tgt (evSs g.call ys) (ds.drop (i + 1)) ρ'' s''), fun σ'' H'' w => ⟨ds.length - (i + 1), by omega, rfl, hlt, w⟩, fun v Hy y => ?_⟩
    obtain ⟨kp, rv⟩ := yl v Hy y
    have Ry := R'.step kp.ext (R'.hand.keeps kp)
    refine tG_ok tgt d v l σ' _ hl rv fun l' pr => ?_
    have Rb := Ry.setAll pr fun p hp => hix _ (bindL_ix tgt d l hl p hp)
    refine ⟨F', Z0, hd, hc, _, s', Rb, ?_⟩
    unfold M.bnd at hp'
    cases q : evSs g.call ys (setAll ρ' l) s' with
    | ok f s2 =>
      rw [q] at hp'
      cases f with
      | nx ρ2 => exact fun σ2 H2 R2 => ⟨ρ2, s2, R2, hp'⟩
      | ct ρ2 => exact fun σ2 H2 R2 => ⟨ρ2, s2, R2, hp'⟩
      | bk ρ2 => exact fun σ2 H2 R2 => hp' σ2 H2 (back _ _ _ _ R2)
      | rt v => exact fun u H2 e2 h2 r2 => hp' u H2 (exF.trans e2) h2 r2
    | ex c as s2 => rw [q] at hp'; exact fun cls dd H2 e2 h2 r2 => hp' cls dd H2 (exF.trans e2) h2 r2
    | bad => rw [q] at hp'; exact hp'
  · have e : i = ds.length := by omega
    subst e
    refine .inl ⟨wk.stop _ _ stay (Nat.le_refl _), ?_⟩
    rw [List.drop_length] at hp'
    exact hp' σ' H' (back _ _ _ _ R')
end
end Wv

set_option Elab.async false
set_option autoImplicit false
set_option linter.all false
set_option maxRecDepth 100000
set_option maxHeartbeats 4000000
namespace Wv
open PySem PySem.Spec PyProof.Rows L2 PySem.W
/-! ### views of the text -/
def vName : Expr → Option Str
  | .Name x _ => some x
  | _ => none
theorem vName_ok {e : Expr} {x : Str} (h : vName e = some x) : ∃ p, e = .Name x p := by
  cases e <;> simp [vName] at h
  subst h; exact ⟨_, rfl⟩
def vConst : Expr → Option Const
  | .Constant c _ _ => some c
  | _ => none
theorem vConst_ok {e : Expr} {c : Const} (h : vConst e = some c) : ∃ k p, e = .Constant c k p := by
  cases e <;> simp [vConst] at h
  subst h; exact ⟨_, _, rfl⟩
def vBin : Expr → Option (Expr × Operator × Expr)
  | .BinOp a o b _ => some (a, o, b)
  | _ => none
theorem vBin_ok {e a b : Expr} {o : Operator} (h : vBin e = some (a, o, b)) : ∃ p, e = .BinOp a o b p := by
  cases e <;> simp [vBin] at h
  obtain ⟨rfl, rfl, rfl⟩ := h; exact ⟨_, rfl⟩
def vCmp1 : Expr → Option (Expr × CmpOp × Expr)
  | .Compare a [o] [b] _ => some (a, o, b)
  | _ => none
theorem vCmp1_ok {e a b : Expr} {o : CmpOp} (h : vCmp1 e = some (a, o, b)) : ∃ p, e = .Compare a [o] [b] p := by
  unfold vCmp1 at h
  split at h
  · cases h; exact ⟨_, rfl⟩
  · cases h
def vCmp2 : Expr → Option (Expr × CmpOp × CmpOp × Expr × Expr)
  | .Compare a [o, p] [b, c] _ => some (a, o, p, b, c)
  | _ => none
theorem vCmp2_ok {e a b c : Expr} {o o' : CmpOp} (h : vCmp2 e = some (a, o, o', b, c)) : ∃ p, e = .Compare a [o, o'] [b, c] p := by
  unfold vCmp2 at h
  split at h
  · cases h; exact ⟨_, rfl⟩
  · cases h
def vBool : Expr → Option (BoolOp × Expr × Expr × List Expr × Pos)
  | .BoolOp o (a :: b :: r) p => some (o, a, b, r, p)
  | _ => none
theorem vBool_ok {e a b : Expr} {o : BoolOp} {r : List Expr} {p : Pos} (h : vBool e = some (o, a, b, r, p)) : e = .BoolOp o (a :: b :: r) p := by
  unfold vBool at h
  split at h
  · cases h; rfl
  · cases h
def vNot : Expr → Option Expr
  | .UnaryOp .Not a _ => some a
  | _ => none
theorem vNot_ok {e a : Expr} (h : vNot e = some a) : ∃ p, e = .UnaryOp .Not a p := by
  unfold vNot at h
  split at h
  · cases h; exact ⟨_, rfl⟩
  · cases h
def vIte : Expr → Option (Expr × Expr × Expr)
  | .IfExp c a b _ => some (c, a, b)
  | _ => none
theorem vIte_ok {e c a b : Expr} (h : vIte e = some (c, a, b)) : ∃ p, e = .IfExp c a b p := by
  cases e <;> simp [vIte] at h
  obtain ⟨rfl, rfl, rfl⟩ := h; exact ⟨_, rfl⟩
def vTup : Expr → Option (List Expr)
  | .Tuple es _ _ => some es
  | _ => none
theorem vTup_ok {e : Expr} {es : List Expr} (h : vTup e = some es) : ∃ k p, e = .Tuple es k p := by
  cases e <;> simp [vTup] at h
  subst h; exact ⟨_, _, rfl⟩
def vLst : Expr → Option (List Expr)
  | .List es _ => some es
  | _ => none
theorem vLst_ok {e : Expr} {es : List Expr} (h : vLst e = some es) : ∃ p, e = .List es p := by
  cases e <;> simp [vLst] at h
  subst h; exact ⟨_, rfl⟩
def vIdx : Expr → Option (Expr × Expr)
  | .Subscript a i _ => some (a, i)
  | _ => none
theorem vIdx_ok {e a i : Expr} (h : vIdx e = some (a, i)) : ∃ p, e = .Subscript a i p := by
  cases e <;> simp [vIdx] at h
  obtain ⟨rfl, rfl⟩ := h; exact ⟨_, rfl⟩
def vSl : Expr → Option (Expr × Option Expr × Option Expr)
  | .Subscript a (.Slice lo hi none _) _ => some (a, lo, hi)
  | _ => none
theorem vSl_ok {e a : Expr} {lo hi : Option Expr} (h : vSl e = some (a, lo, hi)) : ∃ p2 p, e = .Subscript a (.Slice lo hi none p2) p := by
  unfold vSl at h
  split at h
  · cases h; exact ⟨_, _, rfl⟩
  · cases h
def vCall : Expr → Option (Str × List Expr)
  | .Call (.Name x _) es [] _ => some (x, es)
  | _ => none
theorem vCall_ok {e : Expr} {x : Str} {es : List Expr} (h : vCall e = some (x, es)) : ∃ p pos, e = .Call (.Name x p) es [] pos := by
  unfold vCall at h
  split at h
  · cases h; exact ⟨_, _, rfl⟩
  · cases h
def vComp : Expr → Option (Expr × Expr × Expr × List Expr × Scope × Pos)
  | .ListComp elt [⟨tg, iter, ifs, 0⟩] scope p => some (elt, tg, iter, ifs, scope, p)
  | _ => none
theorem vComp_ok {e elt tg iter : Expr} {ifs : List Expr} {scope : Scope} {p : Pos} (h : vComp e = some (elt, tg, iter, ifs, scope, p)) : e = .ListComp elt [⟨tg, iter, ifs, 0⟩] scope p := by
  unfold vComp at h
  split at h
  · cases h; rfl
  · cases h
def vComp2 : Expr → Option (Expr × (Expr × Expr × List Expr) × (Expr × Expr × List Expr) × Scope × Pos)
  | .ListComp elt [⟨tg, iter, ifs, 0⟩, ⟨tg1, iter1, ifs1, 0⟩] scope p => some (elt, (tg, iter, ifs), (tg1, iter1, ifs1), scope, p)
  | _ => none
theorem vComp2_ok {e elt tg iter tg1 iter1 : Expr} {ifs ifs1 : List Expr} {scope : Scope} {p : Pos} (h : vComp2 e = some (elt, (tg, iter, ifs), (tg1, iter1, ifs1), scope, p)) : e = .ListComp elt [⟨tg, iter, ifs, 0⟩, ⟨tg1, iter1, ifs1, 0⟩] scope p := by
  unfold vComp2 at h
  split at h
  · cases h; rfl
  · cases h
/-! ### the checker -/
structure Cc where
  N : List Str
  gl : List (Str × (Nat × Nat))
  gc : List (Str × PyData)
  bn : List Str
  ms : List Nat
inductive Md | v | t | w
  deriving DecidableEq
def plainTest : Expr → Bool
  | .UnaryOp .Not _ _ => false
  | .BoolOp .. => false
  | .IfExp .. => false
  | .Compare .. => false
  | _ => true
def okM : Md → Expr → Bool
  | .v, _ => true
  | .t, e => plainTest e
  | .w, _ => false
def dbg (x : Str) : Bool := x == ("__debug__" : Str)
def cdd (x : Str) : Bool := x == ("__classdict__" : Str)
def visB (sc : Scope) (x : Str) : Bool := (sc.names.lookup x == some .local || sc.names.lookup x == some .cell || sc.names.lookup x == some .free) && !dbg x && !cdd x
def glB (sc : Scope) (x : Str) : Bool := sc.names.lookup x == some .globalImplicit && !dbg x
def bnB (C : Cc) (sc : Scope) (x : Str) : Bool := glB sc x && C.bn.contains x && !(x == ("__name__" : Str))
def bopO : Bop → Operator
  | .add => .Add | .sub => .Sub | .mul => .Mult | .fdiv => .FloorDiv | .mod => .Mod | .pow => .Pow
def copO : Cop → CmpOp
  | .lt => .Lt | .le => .LtE | .gt => .Gt | .ge => .GtE | .eq => .Eq | .ne => .NotEq | .is_ => .Is | .isn => .IsNot | .isin => .In | .notin => .NotIn
def biS : Bi → Str
  | .len => "len" | .sum => "sum" | .any => "any" | .all => "all" | .max => "max" | .min => "min" | .sorted => "sorted" | .tuple => "tuple" | .list => "list" | .abs => "abs" | .int => "int"
def tyN : Ty → Str
  | .int => "int" | .bool => "bool" | .str => "str" | .tuple => "tuple" | .list => "list" | .dict => "dict"
def constB : PyData → Const → Bool
  | .none, .none => true
  | .bool b, .bool c => b == c
  | .int i, .int j => i == j
  | .str x, .str y => x == y
  | _, _ => false
mutual
def peq : PyData → PyData → Bool
  | .none, .none => true
  | .bool b, .bool c => b == c
  | .int i, .int j => i == j
  | .str x, .str y => x == y
  | .tuple xs, .tuple ys => peqs xs ys
  | .list xs, .list ys => peqs xs ys
  | _, _ => false
def peqs : List PyData → List PyData → Bool
  | [], [] => true
  | x :: xs, y :: ys => peq x y && peqs xs ys
  | _, _ => false
end
def gcB (C : Cc) (x : Str) (d : PyData) : Bool := match C.gc.lookup x with
  | some d' => peq d' d
  | none => false
def notAnyStar (es : List Expr) : Bool := es.all fun e => !isStar e
mutual
def chkG (C : Cc) (top : Bool) (sc : Scope) : Tgt → Expr → Bool
  | .one i, e => match vName e with
    | some x => C.N[i]? == some x && (sc.names.lookup x == some .local || (top && sc.names.lookup x == some .cell))
    | none => false
  | .tup ts, e => match vTup e with
    | some es => chkGs C top sc ts es
    | none => false
def chkGs (C : Cc) (top : Bool) (sc : Scope) : List Tgt → List Expr → Bool
  | [], [] => true
  | t :: ts, e :: es => !isStar e && chkG C top sc t e && chkGs C top sc ts es
  | _, _ => false
end
def ownL (C : Cc) (own : List Nat) : List (Str × Nat) := own.map fun i => (C.N.getD i ⟨#[]⟩, i)
def blkB (C : Cc) (sc scope : Scope) (own : List Nat) : Bool :=
  scope.kind == .function && scope.names.all (fun y => scope.names.lookup y.1 == some y.2) && own.all (fun i => decide (i < C.N.length)) &&
  scope.names.all (fun y => !(y.2 == .free) || sc.names.lookup y.1 == some .cell || sc.names.lookup y.1 == some .free) &&
  scope.names.all (fun y => !(y.2 == .local || y.2 == .cell) || ((ownL C own).map (·.1)).contains y.1 || !C.N.contains y.1)
def noSet : Expr → Bool
  | .Set .. => false
  | _ => true
def ownIt (C : Cc) : It → Bool
  | .ex (.v n) => C.ms.contains n
  | _ => false
mutual
def chkE (C : Cc) (sc : Scope) (m : Md) (al : Bool) : Ex → Expr → Bool
  | .v i, e => match vName e with
    | some x => okM m e && C.N[i]? == some x && visB sc x && (al || !C.ms.contains i)
    | none => false
  | .c d, e => match vConst e with
    | some c => okM m e && constB d c
    | none => false
  | .g d, e => match vName e with
    | some x => okM m e && glB sc x && gcB C x d
    | none => false
  | .bin o a b, e => match vBin e with
    | some (l, op, r) => okM m e && op == bopO o && chkE C sc .v al a l && chkE C sc .v al b r
    | none => false
  | .cmp o a b, e => match vCmp1 e with
    | some (l, op, r) => m != .w && op == copO o && !behindInMarks op r && chkE C sc .v true a l && chkE C sc .v true b r
    | none => false
  | .chain o p a b c, e => match vCmp2 e with
    | some (l, op, op', r, q) => m != .w && op == copO o && op' == copO p && !behindInMarks op' q && chkE C sc .v true a l && chkE C sc .v true b r && chkE C sc .v true c q
    | none => false
  | .and a b, e => match vBool e with
    | some (op, l, r, rest, p) => op == .And && chkE C sc (if m = .v then .v else .t) al a l && (match rest with
      | [] => chkE C sc (if m = .v then .v else .t) al b r
      | _ => chkE C sc (if m = .v then .v else .w) al b (.BoolOp op (r :: rest) p))
    | none => false
  | .or a b, e => match vBool e with
    | some (op, l, r, rest, p) => op == .Or && chkE C sc (if m = .v then .v else .t) al a l && (match rest with
      | [] => chkE C sc (if m = .v then .v else .t) al b r
      | _ => chkE C sc (if m = .v then .v else .w) al b (.BoolOp op (r :: rest) p))
    | none => false
  | .not a, e => match vNot e with
    | some l => m != .w && chkE C sc (if m = .v then .v else .t) true a l
    | none => false
  | .ite c a b, e => match vIte e with
    | some (q, l, r) => m == .v && chkE C sc .t true c q && chkE C sc .v al a l && chkE C sc .v al b r
    | none => false
  | .tup es, e => match vTup e with
    | some l => okM m e && decide (es.length ≤ 1000) && chkEs C sc al es l
    | none => false
  | .lst es, e => match vLst e with
    | some l => okM m e && decide (es.length ≤ 1000) && chkEs C sc al es l
    | none => false
  | .idx a i, e => match vIdx e with
    | some (l, r) => okM m e && !isSl r && chkE C sc .v true i r && (chkE C sc .v al a l || (match a, vName l with
      | .v n, some x => C.N[n]? == some x && visB sc x && C.ms.contains n
      | _, _ => false))
    | none => false
  | .slice a lo hi, e => match vSl e with
    | some (l, p, q) => okM m e && chkE C sc .v al a l && chkO C sc lo p && chkO C sc hi q
    | none => false
  | .call f es, e => match vCall e with
    | some (x, l) => okM m e && glB sc x && C.gl.lookup x == some (f, es.length) && chkEs C sc al es l
    | none => false
  | .bi b es, e => match vCall e with
    | some (x, l) => okM m e && bnB C sc x && x == biS b && !l.isEmpty && chkEs C sc al es l
    | none => false
  | .lrange es, e => match vCall e with
    | some (x, [e2]) => okM m e && bnB C sc x && x == ("list" : Str) && (match vCall e2 with
      | some (y, l) => bnB C sc y && y == ("range" : Str) && l.length == 1 && chkEs C sc true es l
      | none => false)
    | _ => false
  | .isi a t, e => match vCall e with
    | some (x, [l, ty]) => okM m e && bnB C sc x && x == ("isinstance" : Str) && (match vName ty with
      | some y => bnB C sc y && y == tyN t && !isStar l && chkE C sc .v true a l
      | none => false)
    | _ => false
  | .comp tg own it cd x, e => match vComp e with
    | some (elt, tge, iter, ifs, scope, p) => m == .v && blkB C sc scope own && own.all (fun i => !C.ms.contains i) && (tgIx tg).all (fun i => own.contains i) && noSet iter && chkG C false (relS scope sc) tg tge &&
        (if ownIt C it then chkJ C sc it iter else chkI C sc it tge iter) && chkC C (relS scope sc) cd ifs && chkE C (relS scope sc) .v al x elt
    | none => false
  | .comp2 tg own it cd tg1 own1 it1 cd1 x, e => match vComp2 e with
    | some (elt, (tge, iter, ifs), (tge1, iter1, ifs1), scope, p) => m == .v && blkB C sc scope own && own.all (fun i => !C.ms.contains i) && (tgIx tg).all (fun i => own.contains i) && own1.all (fun i => own.contains i) && (tgIx tg1).all (fun i => own1.contains i) && noSet iter && noSet iter1 &&
        chkG C false (relS scope sc) tg tge && chkG C false (relS scope sc) tg1 tge1 && (if ownIt C it then chkJ C sc it iter else chkI C sc it tge iter) && chkC C (relS scope sc) cd ifs && chkI C (relS scope sc) it1 tge1 iter1 && chkC C (relS scope sc) cd1 ifs1 && chkE C (relS scope sc) .v al x elt
    | none => false
/-- an owned list, walked -/
def chkJ (C : Cc) (sc : Scope) : It → Expr → Bool
  | .ex (.v n), e => match vName e with
    | some x => C.N[n]? == some x && visB sc x && C.ms.contains n
    | none => false
  | _, _ => false
def chkI (C : Cc) (sc : Scope) : It → Expr → Expr → Bool
  | .ex x, _, e => chkE C sc .v false x e
  | .range es, _, e => match vCall e with
    | some (x, l) => bnB C sc x && x == ("range" : Str) && (l.length == 1 || l.length == 2) && chkEs C sc true es l
    | none => false
  | .enum a, tg, e => match vCall e with
    | some (x, [l]) => bnB C sc x && x == ("enumerate" : Str) && (vTup tg).isSome && !isStar l && chkE C sc .v false a l
    | _ => false
  | .zip a b, tg, e => match vCall e with
    | some (x, [l, r]) => bnB C sc x && x == ("zip" : Str) && (vTup tg).isSome && !isStar l && !isStar r && chkE C sc .v false a l && chkE C sc .v false b r
    | _ => false
def chkC (C : Cc) (sc : Scope) : Option Ex → List Expr → Bool
  | none, l => l.isEmpty
  | some c, l => match l with
    | [e] => chkE C sc .t true c e
    | _ => false
def chkO (C : Cc) (sc : Scope) : Option Ex → Option Expr → Bool
  | none, o => o.isNone
  | some c, o => match o with
    | some e => chkE C sc .v true c e
    | none => false
def chkEs (C : Cc) (sc : Scope) (al : Bool) : List Ex → List Expr → Bool
  | [], l => l.isEmpty
  | x :: xs, l => match l with
    | e :: es => !isStar e && chkE C sc .v al x e && chkEs C sc al xs es
    | [] => false
end
/-! ### statements -/
/-- how a tuple is taken apart (none: the model does not say) -/
def swP (sc : Scope) (ts vs : List Expr) : Option (Option (List Str)) :=
  if (!(ts.length == 2 || ts.length == 3) || vs.length != ts.length) = true then some none
  else if vs.any isStar then some none
  else
    let line := (ts.head?.map (·.pos.line)).getD 0
    let names := ts.filterMap fun
      | .Name id pos => if sc.names.lookup id == some .local && pos.line == line then some id else none
      | _ => none
    if (names.length != ts.length || names.eraseDups.length != names.length) = true then some none
    else if vs.all (foldedForSure 8) then some none
    else if vs.all (constantsAlone 8) then none
    else some (some names)
def isTgList : Expr → Bool
  | .List .. => true
  | _ => false
def swNone (sc : Scope) (tg e : Expr) : Bool := !isTgList tg && (match vTup tg, vTup e with
  | some ts, some vs => swP sc ts vs == some none
  | _, _ => true)
def chkF (C : Cc) (sc : Scope) : Ex → Expr → Bool
  | .lst es, e => match vLst e with
    | some l => decide (es.length ≤ 1000) && chkEs C sc false es l
    | none => false
  | .bin .mul a b, e => match vBin e with
    | some (l, op, r) => op == .Mult && chkE C sc .v false a l && chkE C sc .v true b r
    | none => false
  | _, _ => false
def vSet : Stmt → Option (Expr × Expr × Pos)
  | .Assign [t] e p => some (t, e, p)
  | _ => none
theorem vSet_ok {st : Stmt} {t e : Expr} {p : Pos} (h : vSet st = some (t, e, p)) : st = .Assign [t] e p := by
  unfold vSet at h
  split at h
  · cases h; rfl
  · cases h
def vMeth : Stmt → Option (Str × Str × Expr × Bool)
  | .Expr (.Call (.Attribute (.Name y _) m apos) [e] [] cpos) _ => some (y, m, e, apos.endLine == cpos.line)
  | _ => none
theorem vMeth_ok {st : Stmt} {y m : Str} {e : Expr} {b : Bool} (h : vMeth st = some (y, m, e, b)) : ∃ py apos cpos pos, st = .Expr (.Call (.Attribute (.Name y py) m apos) [e] [] cpos) pos ∧ (apos.endLine == cpos.line) = b := by
  unfold vMeth at h
  split at h
  · cases h; exact ⟨_, _, _, _, rfl, rfl⟩
  · cases h
def vAug : Stmt → Option (Expr × Operator × Expr)
  | .AugAssign t o e _ => some (t, o, e)
  | _ => none
theorem vAug_ok {st : Stmt} {t e : Expr} {o : Operator} (h : vAug st = some (t, o, e)) : ∃ p, st = .AugAssign t o e p := by
  unfold vAug at h
  split at h
  · cases h; exact ⟨_, rfl⟩
  · cases h
def stoB (C : Cc) (top : Bool) (sc : Scope) (i : Nat) (x : Str) : Bool := C.N[i]? == some x && (sc.names.lookup x == some .local || (top && sc.names.lookup x == some .cell))
def namesOf : List Expr → Option (List Str)
  | [] => some []
  | e :: es => match vName e with
    | some x => (namesOf es).map (x :: ·)
    | none => none
def parB (C : Cc) (sc : Scope) : List Nat → List Expr → Bool
  | [], [] => true
  | i :: is, e :: es => (match vName e with
    | some x => C.N[i]? == some x && sc.names.lookup x == some .local
    | none => false) && !C.ms.contains i && parB C sc is es
  | _, _ => false
def nodupB (l : List Nat) : Bool := decide l.Nodup
mutual
def chkS (C : Cc) (sc : Scope) : St → Stmt → Bool
  | .set fl i x, st => match vSet st with
    | some (t, e, _) => (match vName t with
      | some y => stoB C true sc i y && !C.ms.contains i && chkE C sc .v fl x e
      | none => false)
    | none => false
  | .setL i x, st => match vSet st with
    | some (t, e, _) => (match vName t with
      | some y => stoB C true sc i y && C.ms.contains i && !isComp e && chkF C sc x e
      | none => false)
    | none => false
  | .move i j, st => match vSet st with
    | some (t, e, _) => (match vName t, vName e with
      | some y, some z => stoB C true sc i y && C.N[j]? == some z && visB sc z && !C.ms.contains i && C.ms.contains j
      | _, _ => false)
    | none => false
  | .par is xs, st => match vSet st with
    | some (t, e, _) => (match vTup t, vTup e with
      | some ts, some es => parB C sc is ts && (is.length == 2 || is.length == 3) && nodupB is && ts.length == is.length && xs.length == is.length && es.length == is.length && swP sc ts es == some (namesOf ts) && chkEs C sc false xs es
      | _, _ => false)
    | none => false
  | .unp fl tg x, st => match vSet st with
    | some (t, e, _) => chkG C true sc tg t && !isStar t && swNone sc t e && !isComp e && (tgIx tg).all (fun i => !C.ms.contains i) && chkE C sc .v fl x e
    | none => false
  | .app fl i x, st => match vMeth st with
    | some (y, m, e, b) => b && m == ("append" : Str) && C.N[i]? == some y && visB sc y && C.ms.contains i && !isStar e && chkE C sc .v fl x e
    | none => false
  | .ext fl i x, st => match vMeth st with
    | some (y, m, e, b) => b && m == ("extend" : Str) && C.N[i]? == some y && visB sc y && C.ms.contains i && !isStar e && chkE C sc .v fl x e
    | none => false
  | .seti fl i k x, st => match vSet st with
    | some (t, e, _) => (match vIdx t with
      | some (o, ke) => (match vName o with
        | some y => C.N[i]? == some y && visB sc y && C.ms.contains i && !isSl ke && !isComp e && chkE C sc .v true k ke && chkE C sc .v fl x e
        | none => false)
      | none => false)
    | none => false
  | .setH i k x, st => match vSet st with
    | some (t, e, _) => (match vIdx t with
      | some (o, ke) => (match vName o with
        | some y => C.N[i]? == some y && visB sc y && !isSl ke && !isComp e && chkE C sc .v true k ke && chkE C sc .v true x e
        | none => false)
      | none => false)
    | none => false
  | .augi i k o x, st => match vAug st with
    | some (t, op, e) => (match vIdx t with
      | some (oe, ke) => (match vName oe with
        | some y => C.N[i]? == some y && visB sc y && C.ms.contains i && !isSl ke && op == bopO o && (o == .add || o == .sub) && chkE C sc .v true k ke && chkE C sc .v true x e
        | none => false)
      | none => false)
    | none => false
  | .aug i o x, st => match vAug st with
    | some (t, op, e) => (match vName t with
      | some y => stoB C true sc i y && !C.ms.contains i && op == bopO o && (o == .add || o == .sub) && chkE C sc .v true x e
      | none => false)
    | none => false
  | .ite c a b, st => match st with
    | .If ce p q _ => chkE C sc .t true c ce && chkSs C sc a p && chkSs C sc b q
    | _ => false
  | .for_ tg it body, st => match st with
    | .For t iter bs [] _ => chkG C true sc tg t && (tgIx tg).all (fun i => !C.ms.contains i) && noSet iter && chkI C sc it t iter && chkSs C sc body bs
    | _ => false
  | .whl c body, st => match st with
    | .While ce bs [] _ => chkE C sc .t true c ce && chkSs C sc body bs
    | _ => false
  | .ret x, st => match st with
    | .Return (some e) _ => chkE C sc .v true x e
    | .Return none _ => (match x with
      | .c .none => true
      | _ => false)
    | _ => false
  | .brk, st => match st with
    | .Break _ => true
    | _ => false
  | .cont, st => match st with
    | .Continue _ => true
    | _ => false
  | .pass, st => match st with
    | .Pass _ => true
    | _ => false
  | .drop x, st => match st with
    | .Expr e _ => !isComp e && chkE C sc .v true x e
    | _ => false
  | .raise _ _, _ => false
  | .never, _ => true
def chkSs (C : Cc) (sc : Scope) : List St → List Stmt → Bool
  | [], l => l.isEmpty
  | x :: xs, l => match l with
    | st :: sts => chkS C sc x st && chkSs C sc xs sts
    | [] => false
end
end Wv

set_option Elab.async false
set_option autoImplicit false
set_option linter.all false
set_option maxRecDepth 100000
set_option maxHeartbeats 4000000
namespace Wv
open PySem PySem.Spec PyProof.Rows L2 PySem.W
structure CtxOk (C : Cc) (top : Bool) (sc : Scope) (g : Sg) (Eo : XK) (X : Cx) : Prop where
  hN : X.N = C.N
  nd : C.N.Nodup
  sc : X.env.scope = sc
  calm : X.calm = true
  hu : X.A.units + 64 < cLine
  ms : g.ms = C.ms
  fn : ∀ x i np, C.gl.lookup x = some (i, np) → ∃ k f fd ps, X.mg x = some (.ref f) ∧ FnOk X.prog X.w X.K X.mg X.base (L2.CX X.prog X.w) k f fd ps (spF X.K g.XR g.call i ps.length) ∧ Room k X.A ∧ PySem.W.keepIn X.K (.ref f) = true ∧ Binds X.K fd ps [] ∧ ps.length = np
  gc : ∀ x d, C.gc.lookup x = some d → ∃ v u, X.mg x = some u ∧ RelV v u ∧ ∀ H Z, Rep X.K H Z v d
  bn : ∀ x, C.bn.contains x = true → X.mg x = none
  pass : Passes (L2.CX X.prog X.w) X Eo
  top : top = true → ∀ x, X.fn x = true
theorem CtxOk.blk {C : Cc} {top : Bool} {sc : Scope} {g : Sg} {Eo : XK} {X : Cx} (c : CtxOk C top sc g Eo X) (s : Shared) (H : Hp) (scope : Scope) (a : Addr) (cl : List (Str × Addr)) (fp : List Addr) : CtxOk C false (relS scope sc) g E0 (X.blk s H scope (compEnvC scope cl a X.env) fp) where
  hN := c.hN
  nd := c.nd
  sc := by
    show relabel scope X.env = relS scope sc
    rw [← c.sc]; rfl
  calm := c.calm
  hu := c.hu
  ms := c.ms
  fn := c.fn
  gc := c.gc
  bn := c.bn
  pass := L2.passL
  top := fun h => nomatch h
mutual
theorem peq_ok : ∀ d e : PyData, peq d e = true → d = e
  | .none, e, h => by cases e <;> simp [peq] at h; rfl
  | .bool b, e, h => by cases e <;> simp [peq] at h; rw [h]
  | .int b, e, h => by cases e <;> simp [peq] at h; rw [h]
  | .str b, e, h => by cases e <;> simp [peq] at h; rw [h]
  | .list b, e, h => by cases e <;> simp [peq] at h; rw [peqs_ok _ _ h]
  | .tuple b, e, h => by cases e <;> simp [peq] at h; rw [peqs_ok _ _ h]
  | .dict _, e, h => by cases e <;> simp [peq] at h
theorem peqs_ok : ∀ d e : List PyData, peqs d e = true → d = e
  | [], e, h => by cases e <;> simp [peqs] at h; rfl
  | x :: xs, e, h => by
    cases e with
    | nil => simp [peqs] at h
    | cons y ys =>
      simp only [peqs, Bool.and_eq_true] at h
      rw [peq_ok _ _ h.1, peqs_ok _ _ h.2]
end
theorem boot_bi (b : Bi) : bootBuiltins (biS b) = some (match b with | .tuple => .type "tuple" | .list => .type "list" | .int => .type "int" | .len => .builtin "len" | .sum => .builtin "sum" | .any => .builtin "any" | .all => .builtin "all" | .max => .builtin "max" | .min => .builtin "min" | .sorted => .builtin "sorted" | .abs => .builtin "abs") := by
  cases b <;> decide +kernel
theorem boot_isi : bootBuiltins "isinstance" = some (.builtin "isinstance") := by decide +kernel
theorem boot_ty (t : Ty) : bootBuiltins (tyN t) = some (.type (tyS t)) := by cases t <;> decide +kernel
section
variable {C : Cc} {top : Bool} {sc : Scope} {g : Sg} {Eo : XK} {X : Cx}
theorem vis_ok (c : CtxOk C top sc g Eo X) {x : Str} (h : visB sc x = true) : Vis X.env.scope x ∧ (x == ("__debug__" : Str)) = false ∧ (x == ("__classdict__" : Str)) = false := by
  unfold visB dbg cdd at h
  simp only [Bool.and_eq_true, Bool.or_eq_true, beq_iff_eq, Bool.not_eq_true'] at h
  rw [c.sc]
  exact ⟨by rcases h.1.1 with (q | q) | q; exact .inl q; exact .inr (.inl q); exact .inr (.inr q), h.1.2, h.2⟩
theorem gl_ok (c : CtxOk C top sc g Eo X) {x : Str} (h : glB sc x = true) : Gl X x ∧ (x == ("__debug__" : Str)) = false := by
  unfold glB dbg at h
  simp only [Bool.and_eq_true, beq_iff_eq, Bool.not_eq_true'] at h
  refine ⟨?_, h.2⟩
  show X.env.scope.names.lookup x = _
  rw [c.sc]; exact h.1
theorem bn_ok (c : CtxOk C top sc g Eo X) {x : Str} (h : bnB C sc x = true) : Gl X x ∧ (x == ("__debug__" : Str)) = false ∧ X.mg x = none ∧ x ≠ "__name__" := by
  unfold bnB at h
  simp only [Bool.and_eq_true, Bool.not_eq_true'] at h
  obtain ⟨h1, h2⟩ := gl_ok c h.1.1
  exact ⟨h1, h2, c.bn x h.1.2, fun e => by rw [e] at h; simp at h⟩
theorem const_ok {d : PyData} {k : Const} {j : Nat} {p : Pos} (h : constB d k = true) : ∃ v, PE X (.Constant k j p) (tC v) ∧ ∀ H Z, Rep X.K H Z v d := by
  unfold constB at h
  split at h
  · exact ⟨_, pe_non, fun H Z => .non⟩
  · simp at h; subst h; exact ⟨_, pe_bl, fun H Z => .bl _⟩
  · simp at h; subst h; exact ⟨_, pe_int, fun H Z => .int _⟩
  · simp at h; subst h; exact ⟨_, pe_str, fun H Z => .str _⟩
  · cases h
theorem op_ok (o : Bop) : OpR X (binaryOp (bopO o)) (rD2 X.K (binop o)) := by
  cases o
  · exact opD_add
  · exact opD_sub
  · exact opD_mul
  · exact opD_fdiv
  · exact opD_mod
  · exact opD_pow
theorem cop_ok (hu : X.A.units + 64 < cLine) (o : Cop) : OpR X (compareOp (copO o)) (rC2 X.K (cmpop o)) := by
  cases o
  · exact opC_lt hu
  · exact opC_le hu
  · exact opC_gt hu
  · exact opC_ge hu
  · exact opC_eq hu
  · exact opC_ne hu
  · exact opC_is
  · exact opC_isn
  · exact opC_in hu
  · exact opC_notin hu
theorem plain_ok {e : Expr} (h : plainTest e = true) (env : PySem.Env) : ∀ whole, isTrue e env whole = (do let v ← whole; standAt e.pos; holding [v] (PySem.truthy v)) := by
  intro whole
  cases e with
  | UnaryOp op a p => cases op <;> first | rfl | (simp [plainTest] at h)
  | BoolOp => simp [plainTest] at h
  | IfExp => simp [plainTest] at h
  | Compare => simp [plainTest] at h
  | _ => rfl
def Good (g : Sg) (Eo : XK) (X : Cx) (m : Md) (al : Bool) (e : Expr) (x : Ex) : Prop := match m with
  | .v => JE g Eo X al e x
  | .t => JT g Eo X e x
  | .w => JW g Eo X e x
theorem Good.of {m : Md} {al : Bool} {e : Expr} {x : Ex} (h : ∀ al', (al = false → al' = al ∨ al' = true) → (al' = al ∨ al' = true) → JE g Eo X al' e x) (hm : okM m e = true) : Good g Eo X m al e x := by
  cases m with
  | v => exact h al (fun _ => .inl rfl) (.inl rfl)
  | t => exact jt_of (h true (fun _ => .inr rfl) (.inr rfl)) (plain_ok hm _)
  | w => cases hm
theorem Good.of2 {m : Md} {al : Bool} {e : Expr} {x : Ex} (h : JE g Eo X al e x) (hm : okM m e = true) : Good g Eo X m al e x := by
  cases m with
  | v => exact h
  | t =>
    refine jt_of ?_ (plain_ok hm _)
    cases al with
    | true => exact h
    | false => exact je_up h
  | w => cases hm
theorem asgEach {e : Expr} (h : isStar e = false) (es : List Expr) (env : PySem.Env) : assignEach (e :: es) env = (false, assign e env) :: assignEach es env := by
  cases e <;> first | rfl | (simp [isStar] at h)
mutual
theorem chkG_ok (c : CtxOk C top sc g Eo X) : ∀ (t : Tgt) (e : Expr), chkG C top sc t e = true → PG X e (tG X.K t)
  | .one i, e, h => by
    unfold chkG at h
    cases q : vName e with
    | none => rw [q] at h; cases h
    | some x =>
      rw [q] at h
      obtain ⟨p, rfl⟩ := vName_ok q
      simp only [Bool.and_eq_true, Bool.or_eq_true, beq_iff_eq] at h
      refine pg_name (by rw [c.hN]; exact c.nd) (by rw [c.hN]; exact h.1) ?_ ?_
      · rw [c.sc]
        exact h.2.imp id fun z => z.2
      · rcases h.2 with z | z
        · right; rw [c.sc]; exact z
        · left; exact c.top z.1 _
  | .tup ts, e, h => by
    unfold chkG at h
    cases q : vTup e with
    | none => rw [q] at h; cases h
    | some es =>
      rw [q] at h
      obtain ⟨k, p, rfl⟩ := vTup_ok q
      obtain ⟨h1, h2, h3⟩ := chkGs_ok c ts es h
      exact pg_tup c.calm h1 h2 h3
theorem chkGs_ok (c : CtxOk C top sc g Eo X) : ∀ (ts : List Tgt) (es : List Expr), chkGs C top sc ts es = true → PGs X es (tGs X.K ts) ∧ (assignEach es X.env).length = ts.length ∧ (assignEach es X.env).findIdx? (·.1) = none
  | [], es, h => by
    cases es with
    | nil => exact ⟨pgs_nil, rfl, rfl⟩
    | cons _ _ => simp [chkGs] at h
  | t :: ts, es, h => by
    cases es with
    | nil => simp [chkGs] at h
    | cons e es =>
      simp only [chkGs, Bool.and_eq_true, Bool.not_eq_true'] at h
      obtain ⟨h1, h2, h3⟩ := chkGs_ok c ts es h.2
      refine ⟨pgs_cons (chkG_ok c t e h.1.2) h1 (by rw [asgEach h.1.1]; rfl), by rw [asgEach h.1.1]; simp [h2], ?_⟩
      rw [asgEach h.1.1, List.findIdx?_cons]
      simp [h3]
end
theorem lookup_of_beq {sc : Scope} {x : Str} {k : NameKind} (h : (sc.names.lookup x == some k) = true) : sc.names.lookup x = some k := by simpa using h
theorem own_map (C : Cc) (own : List Nat) : (ownL C own).map (·.2) = own := by
  unfold ownL
  rw [List.map_map]
  show own.map (fun i => i) = own
  simp
theorem blk_ok {own : List Nat} {scope : Scope} (h : blkB C sc scope own = true) : BlkOk C.N sc scope (ownL C own) := by
  unfold blkB at h
  simp only [Bool.and_eq_true] at h
  obtain ⟨⟨⟨⟨h1, h2⟩, h3⟩, h4⟩, h5⟩ := h
  refine ⟨by simpa using h1, fun y hy => by simpa using List.all_eq_true.mp h2 y hy, fun p hp => ?_, fun y hy e => ?_, fun y hy e => ?_⟩
  · unfold ownL at hp
    obtain ⟨i, hi, rfl⟩ := List.mem_map.mp hp
    have := List.all_eq_true.mp h3 i hi
    simp only [decide_eq_true_eq] at this
    simp [List.getD, List.getElem?_eq_getElem this]
  · have := List.all_eq_true.mp h4 y hy
    rw [e] at this
    simp only [beq_self_eq_true, Bool.not_true, Bool.false_or, Bool.or_eq_true, beq_iff_eq] at this
    exact this
  · have := List.all_eq_true.mp h5 y hy
    rcases e with e | e <;> rw [e] at this <;> simp only [beq_self_eq_true, Bool.true_or, Bool.or_true, Bool.not_true, Bool.false_or, Bool.or_eq_true, Bool.not_eq_true', List.contains_eq_mem, decide_eq_true_eq, decide_eq_false_iff_not] at this <;> exact this
theorem noSet_ok {e : Expr} (h : noSet e = true) (env : PySem.Env) : ∀ x, foldedSetIterable e env x = pure x := by
  intro x
  cases e <;> first | rfl | (simp [noSet] at h)
theorem cb_ok (hc : X.calm = true) (hu : X.A.units + 64 < cLine) {b : Bi} {x : Str} {p pos : Pos} {al : Bool} {e : Expr} {es : List Expr} {xs : List Ex} (hx : x = biS b) (hg : Gl X x) (hm : X.mg x = none) (hn : x ≠ "__name__") (hdb : (x == ("__debug__" : Str)) = false)
    (hs : ∀ a ∈ e :: es, isStar a = false) (ha : JD g Eo X al (e :: es) xs) : JE g Eo X al (.Call (.Name x p) (e :: es) [] pos) (.bi b xs) := by
  subst hx
  have hv := boot_bi b
  cases b
  · exact je_biB cb_len hg hm hv hn hdb hs ha
  · exact je_biB (cb_sum hc) hg hm hv hn hdb hs ha
  · exact je_biB (cb_any hc) hg hm hv hn hdb hs ha
  · exact je_biB (cb_all hc) hg hm hv hn hdb hs ha
  · exact je_biB (cb_max hc hu) hg hm hv hn hdb hs ha
  · exact je_biB (cb_min hc hu) hg hm hv hn hdb hs ha
  · exact je_biB (cb_sorted hu) hg hm hv hn hdb hs ha
  · exact je_biT cb_tuple hg hm hv hn hdb hs ha
  · exact je_biT cb_list hg hm hv hn hdb hs ha
  · exact je_biB cb_abs hg hm hv hn hdb hs ha
  · exact je_biT cb_int hg hm hv hn hdb hs ha
theorem plainIx_ok {i : Expr} (h : isSl i = false) : PlainIx i := by
  intro o v
  cases i <;> first | rfl | (simp [isSl] at h)
theorem lastM {op op' : CmpOp} {b c : Expr} (h : behindInMarks op' c = false) : lastMarks [op, op'] [b, c] = false := h
/-- what a comprehension's check tells -/
structure CompOk (g : Sg) (Eo : XK) (X : Cx) (al : Bool) (e : Expr) (x : Ex) : Prop where
  ex : ∃ te : TE, PE X e te ∧ (∀ {i : Nat} {y : Str} {py spos : Pos}, X.N[i]? = some y → X.env.scope.names.lookup y = some .local → swapsWith e (some (.Name y py)) spos.line X.env = pure true → PS X (.Assign [.Name y py] e spos) (tAsg te (gName i))) ∧
    (∀ σ H Q, tE g Eo X.K al x σ H Q → te σ H Q) ∧ ∃ elt gs scope p, e = .ListComp elt gs scope p
theorem CompOk.je {al : Bool} {e : Expr} {x : Ex} (h : CompOk g Eo X al e x) : JE g Eo X al e x := by
  obtain ⟨te, h1, h2, h3, _⟩ := h.ex
  exact pe_imp h1 h3
theorem okv {m : Md} (h : (m == Md.v) = true) : m = .v := by simpa using h
theorem contains_iff {l : List Nat} {i : Nat} : l.contains i = true ↔ i ∈ l := by simp
theorem notcontains {l : List Nat} {i : Nat} (h : (!l.contains i) = true) : i ∉ l := by simpa using h
theorem comp_mk {tg : Tgt} {own : List Nat} {it : It} {cd : Option Ex} {x : Ex} {al : Bool} {e : Expr} (c : CtxOk C top sc g Eo X) (h : chkE C sc .v al (.comp tg own it cd x) e = true)
    (hI : ∀ (tge iter : Expr), chkI C sc it tge iter = true → JI g Eo X false tge iter it)
    (hC : ∀ {scope : Scope} {X' : Cx} (c' : CtxOk C false scope g E0 X') (l : List Expr), chkC C scope cd l = true → PTs X' l (tCd g E0 X'.K cd))
    (hE : ∀ {scope : Scope} {X' : Cx} (c' : CtxOk C false scope g E0 X') (e : Expr), chkE C scope .v al x e = true → JE g E0 X' al e x) : CompOk g Eo X al e (.comp tg own it cd x) := by
  unfold chkE at h
  cases q : vComp e with
  | none => rw [q] at h; cases h
  | some t =>
    obtain ⟨elt, tge, iter, ifs, scope, p⟩ := t
    rw [q] at h
    have := vComp_ok q
    subst this
    simp only [Bool.and_eq_true] at h
    obtain ⟨⟨⟨⟨⟨⟨⟨⟨h1, h2⟩, h3⟩, h4⟩, h5⟩, h6⟩, h7⟩, h8⟩, h9⟩ := h
    have ok := blk_ok h2
    rw [← c.hN, ← c.sc] at ok
    have hms : ∀ i ∈ (ownL C own).map (·.2), i ∉ g.ms := fun i hi => by
      rw [own_map] at hi
      rw [c.ms]
      exact notcontains (List.all_eq_true.mp h3 i hi)
    have hix : ∀ i ∈ tgIx tg, i ∈ (ownL C own).map (·.2) := fun i hi => by
      rw [own_map]
      exact contains_iff.mp (List.all_eq_true.mp h4 i hi)
    have hgg : ∀ (s : Shared) (H : Hp) (a : Addr) (cl : List (Str × Addr)) (fp : List Addr), PG (X.blk s H scope (compEnvC scope cl a X.env) fp) tge (tG X.K tg) := fun s H a cl fp => chkG_ok (c.blk s H scope a cl fp) tg tge h6
    have htt : ∀ (s : Shared) (H : Hp) (a : Addr) (cl : List (Str × Addr)) (fp : List Addr), PTs (X.blk s H scope (compEnvC scope cl a X.env) fp) ifs (tCd g E0 X.K cd) := fun s H a cl fp => hC (c.blk s H scope a cl fp) ifs h8
    have hee : ∀ (s : Shared) (H : Hp) (a : Addr) (cl : List (Str × Addr)) (fp : List Addr), JE g E0 (X.blk s H scope (compEnvC scope cl a X.env) fp) al elt x := fun s H a cl fp => hE (c.blk s H scope a cl fp) elt h9
    have fin : ∀ {ow : Bool}, JI g Eo X ow tge iter it → CompOk g Eo X al (.ListComp elt [⟨tge, iter, ifs, 0⟩] scope p) (.comp tg own it cd x) := fun {ow} hi => by
      have := je_comp (Eo := Eo) (X := X) (al := al) (x := x) (iter := iter) (tge := tge) (ow := ow) (vs := own) (tgt := tg) (it := it) (cd := cd) (by rw [own_map] at hix; exact hix) (by rw [own_map] at hms; exact hms)
      have nd : X.N.Nodup := by rw [c.hN]; exact c.nd
      exact ⟨⟨_, pe_lc c.calm nd hi ok hgg htt hee (noSet_ok h5 X.env), fun hy hl hs => ps_setLc c.calm nd hy hl hs hi ok hgg htt hee (noSet_ok h5 X.env), by rw [own_map]; exact this, _, _, _, _, rfl⟩⟩
    by_cases ho : ownIt C it = true
    · rw [if_pos ho] at h7
      unfold chkJ at h7
      split at h7
      · rename_i n e
        cases q2 : vName iter with
        | none => rw [q2] at h7; cases h7
        | some y =>
          rw [q2] at h7
          obtain ⟨p2, rfl⟩ := vName_ok q2
          simp only [Bool.and_eq_true, beq_iff_eq] at h7
          obtain ⟨v1, v2, v3⟩ := vis_ok c h7.1.2
          exact fin (ji_own (by rw [c.hN]; exact h7.1.1) v1 v2 v3 (by rw [c.ms]; exact contains_iff.mp h7.2))
      · cases h7
    · rw [if_neg ho] at h7
      exact fin (hI tge iter h7)
theorem comp2_mk {tg tg1 : Tgt} {own own1 : List Nat} {it it1 : It} {cd cd1 : Option Ex} {x : Ex} {al : Bool} {e : Expr} (c : CtxOk C top sc g Eo X) (h : chkE C sc .v al (.comp2 tg own it cd tg1 own1 it1 cd1 x) e = true)
    (hI : ∀ (tge iter : Expr), chkI C sc it tge iter = true → JI g Eo X false tge iter it)
    (hC : ∀ {scope : Scope} {X' : Cx} (c' : CtxOk C false scope g E0 X') (l : List Expr), chkC C scope cd l = true → PTs X' l (tCd g E0 X'.K cd))
    (hI1 : ∀ {scope : Scope} {X' : Cx} (c' : CtxOk C false scope g E0 X') (tge iter : Expr), chkI C scope it1 tge iter = true → JI g E0 X' false tge iter it1)
    (hC1 : ∀ {scope : Scope} {X' : Cx} (c' : CtxOk C false scope g E0 X') (l : List Expr), chkC C scope cd1 l = true → PTs X' l (tCd g E0 X'.K cd1))
    (hE : ∀ {scope : Scope} {X' : Cx} (c' : CtxOk C false scope g E0 X') (e : Expr), chkE C scope .v al x e = true → JE g E0 X' al e x) : CompOk g Eo X al e (.comp2 tg own it cd tg1 own1 it1 cd1 x) := by
  unfold chkE at h
  cases q : vComp2 e with
  | none => rw [q] at h; cases h
  | some t =>
    obtain ⟨elt, ⟨tge, iter, ifs⟩, ⟨tge1, iter1, ifs1⟩, scope, p⟩ := t
    rw [q] at h
    have := vComp2_ok q
    subst this
    simp only [Bool.and_eq_true] at h
    obtain ⟨⟨⟨⟨⟨⟨⟨⟨⟨⟨⟨⟨⟨⟨h1, h2⟩, h3⟩, h4⟩, i1⟩, i2⟩, h5⟩, h5'⟩, h6⟩, h6'⟩, h7⟩, h8⟩, h7'⟩, h8'⟩, h9⟩ := h
    have ok := blk_ok h2
    rw [← c.hN, ← c.sc] at ok
    have hms : ∀ i ∈ own, i ∉ g.ms := fun i hi => by
      rw [c.ms]
      exact notcontains (List.all_eq_true.mp h3 i hi)
    have hix : ∀ i ∈ tgIx tg, i ∈ own := fun i hi => contains_iff.mp (List.all_eq_true.mp h4 i hi)
    have ho1 : ∀ i ∈ own1, i ∈ own := fun i hi => contains_iff.mp (List.all_eq_true.mp i1 i hi)
    have hix1 : ∀ i ∈ tgIx tg1, i ∈ own1 := fun i hi => contains_iff.mp (List.all_eq_true.mp i2 i hi)
    have hv : ∀ i ∈ own1, i ∈ (ownL C own).map (·.2) := by rw [own_map]; exact ho1
    have hgg : ∀ (s : Shared) (H : Hp) (a : Addr) (cl : List (Str × Addr)) (fp : List Addr), PG (X.blk s H scope (compEnvC scope cl a X.env) fp) tge (tG X.K tg) := fun s H a cl fp => chkG_ok (c.blk s H scope a cl fp) tg tge h6
    have hgg1 : ∀ (s : Shared) (H : Hp) (a : Addr) (cl : List (Str × Addr)) (fp : List Addr), PG (X.blk s H scope (compEnvC scope cl a X.env) fp) tge1 (tG X.K tg1) := fun s H a cl fp => chkG_ok (c.blk s H scope a cl fp) tg1 tge1 h6'
    have htt : ∀ (s : Shared) (H : Hp) (a : Addr) (cl : List (Str × Addr)) (fp : List Addr), PTs (X.blk s H scope (compEnvC scope cl a X.env) fp) ifs (tCd g E0 X.K cd) := fun s H a cl fp => hC (c.blk s H scope a cl fp) ifs h8
    have htt1 : ∀ (s : Shared) (H : Hp) (a : Addr) (cl : List (Str × Addr)) (fp : List Addr), PTs (X.blk s H scope (compEnvC scope cl a X.env) fp) ifs1 (tCd g E0 X.K cd1) := fun s H a cl fp => hC1 (c.blk s H scope a cl fp) ifs1 h8'
    have hii1 : ∀ (s : Shared) (H : Hp) (a : Addr) (cl : List (Str × Addr)) (fp : List Addr), PI (X.blk s H scope (compEnvC scope cl a X.env) fp) tge1 iter1 (tI g E0 X.K false it1) := fun s H a cl fp => hI1 (c.blk s H scope a cl fp) tge1 iter1 h7'
    have hee : ∀ (s : Shared) (H : Hp) (a : Addr) (cl : List (Str × Addr)) (fp : List Addr), JE g E0 (X.blk s H scope (compEnvC scope cl a X.env) fp) al elt x := fun s H a cl fp => hE (c.blk s H scope a cl fp) elt h9
    have fin : ∀ {ow : Bool}, JI g Eo X ow tge iter it → CompOk g Eo X al (.ListComp elt [⟨tge, iter, ifs, 0⟩, ⟨tge1, iter1, ifs1, 0⟩] scope p) (.comp2 tg own it cd tg1 own1 it1 cd1 x) := fun {ow} hi => by
      have := je_comp2 (Eo := Eo) (X := X) (al := al) (x := x) (ow := ow) (vs := own) (vs1 := own1) (tgt := tg) (tgt1 := tg1) (it := it) (it1 := it1) (cd := cd) (cd1 := cd1) hix hms hix1 (fun i hi => hms i (ho1 i hi))
      have nd : X.N.Nodup := by rw [c.hN]; exact c.nd
      exact ⟨⟨_, pe_lc2 c.calm nd hi ok hv hgg htt hii1 hgg1 htt1 hee (noSet_ok h5 X.env) (fun env => noSet_ok h5' env), fun hy hl hs => ps_setLc2 c.calm nd hy hl hs hi ok hv hgg htt hii1 hgg1 htt1 hee (noSet_ok h5 X.env) (fun env => noSet_ok h5' env), by rw [own_map]; exact this, _, _, _, _, rfl⟩⟩
    by_cases ho : ownIt C it = true
    · rw [if_pos ho] at h7
      unfold chkJ at h7
      split at h7
      · rename_i n e
        cases q2 : vName iter with
        | none => rw [q2] at h7; cases h7
        | some y =>
          rw [q2] at h7
          obtain ⟨p2, rfl⟩ := vName_ok q2
          simp only [Bool.and_eq_true, beq_iff_eq] at h7
          obtain ⟨v1, v2, v3⟩ := vis_ok c h7.1.2
          exact fin (ji_own (by rw [c.hN]; exact h7.1.1) v1 v2 v3 (by rw [c.ms]; exact contains_iff.mp h7.2))
      · cases h7
    · rw [if_neg ho] at h7
      exact fin (hI tge iter h7)
mutual
theorem chkE_ok : ∀ (x : Ex) {top : Bool} {sc : Scope} {Eo : XK} {X : Cx} (c : CtxOk C top sc g Eo X) (m : Md) (al : Bool) (e : Expr), chkE C sc m al x e = true → Good g Eo X m al e x
  | .v i, top, sc, Eo, X, c, m, al, e, h => by
    unfold chkE at h
    cases q : vName e with
    | none => rw [q] at h; cases h
    | some x =>
      rw [q] at h
      obtain ⟨p, rfl⟩ := vName_ok q
      simp only [Bool.and_eq_true, beq_iff_eq] at h
      obtain ⟨⟨⟨h1, h2⟩, h3⟩, h4⟩ := h
      obtain ⟨v1, v2, v3⟩ := vis_ok c h3
      refine Good.of2 (je_v (by rw [c.hN]; exact h2) v1 v2 v3 fun e => ?_) h1
      rw [e, Bool.false_or] at h4
      rw [c.ms]
      exact notcontains h4
  | .c d, top, sc, Eo, X, c, m, al, e, h => by
    unfold chkE at h
    cases q : vConst e with
    | none => rw [q] at h; cases h
    | some k =>
      rw [q] at h
      obtain ⟨j, p, rfl⟩ := vConst_ok q
      simp only [Bool.and_eq_true] at h
      obtain ⟨v, h1, h2⟩ := const_ok (X := X) (j := j) (p := p) h.2
      exact Good.of2 (je_const h1 (fun _ => rfl) h2) h.1
  | .g d, top, sc, Eo, X, c, m, al, e, h => by
    unfold chkE at h
    cases q : vName e with
    | none => rw [q] at h; cases h
    | some x =>
      rw [q] at h
      obtain ⟨p, rfl⟩ := vName_ok q
      simp only [Bool.and_eq_true] at h
      obtain ⟨⟨h1, h2⟩, h3⟩ := h
      obtain ⟨v1, v2⟩ := gl_ok c h2
      unfold gcB at h3
      split at h3
      · rename_i d' hl
        have := peq_ok _ _ h3
        subst this
        obtain ⟨v, u, k1, k2, k3⟩ := c.gc _ _ hl
        exact Good.of2 (je_const (pe_glob v1 k1 k2 v2) (fun _ => rfl) k3) h1
      · cases h3
  | .bin o a b, top, sc, Eo, X, c, m, al, e, h => by
    unfold chkE at h
    cases q : vBin e with
    | none => rw [q] at h; cases h
    | some t =>
      obtain ⟨l, op, r⟩ := t
      rw [q] at h
      obtain ⟨p, rfl⟩ := vBin_ok q
      simp only [Bool.and_eq_true, beq_iff_eq] at h
      obtain ⟨⟨⟨h1, h2⟩, h3⟩, h4⟩ := h
      subst h2
      exact Good.of2 (je_bin (op_ok o) (chkE_ok a c .v al l h3) (chkE_ok b c .v al r h4)) h1
  | .cmp o a b, top, sc, Eo, X, c, m, al, e, h => by
    unfold chkE at h
    cases q : vCmp1 e with
    | none => rw [q] at h; cases h
    | some t =>
      obtain ⟨l, op, r⟩ := t
      rw [q] at h
      obtain ⟨p, rfl⟩ := vCmp1_ok q
      simp only [Bool.and_eq_true, beq_iff_eq, Bool.not_eq_true'] at h
      obtain ⟨⟨⟨⟨h1, h2⟩, h3⟩, h4⟩, h5⟩ := h
      subst h2
      cases m with
      | v => exact je_cmp (cop_ok c.hu o) h3 (chkE_ok a c .v true l h4) (chkE_ok b c .v true r h5)
      | t => exact jt_cmp (cop_ok c.hu o) h3 (chkE_ok a c .v true l h4) (chkE_ok b c .v true r h5)
      | w => simp at h1
  | .chain o p a b d, top, sc, Eo, X, c, m, al, e, h => by
    unfold chkE at h
    cases q : vCmp2 e with
    | none => rw [q] at h; cases h
    | some t =>
      obtain ⟨l, op, op', r, z⟩ := t
      rw [q] at h
      obtain ⟨p', rfl⟩ := vCmp2_ok q
      simp only [Bool.and_eq_true, beq_iff_eq, Bool.not_eq_true'] at h
      obtain ⟨⟨⟨⟨⟨⟨h1, h2⟩, h3⟩, h4⟩, h5⟩, h6⟩, h7⟩ := h
      subst h2
      subst h3
      cases m with
      | v => exact je_chain (cop_ok c.hu o) (cop_ok c.hu p) (lastM h4) (chkE_ok a c .v true l h5) (chkE_ok b c .v true r h6) (chkE_ok d c .v true z h7)
      | t => exact jt_chain (cop_ok c.hu o) (cop_ok c.hu p) (lastM h4) (chkE_ok a c .v true l h5) (chkE_ok b c .v true r h6) (chkE_ok d c .v true z h7)
      | w => simp at h1
  | .and a b, top, sc, Eo, X, c, m, al, e, h => by
    unfold chkE at h
    cases q : vBool e with
    | none => rw [q] at h; cases h
    | some t =>
      obtain ⟨op, l, r, rest, p⟩ := t
      rw [q] at h
      have := vBool_ok q
      subst this
      simp only [Bool.and_eq_true, beq_iff_eq] at h
      obtain ⟨⟨h1, h2⟩, h3⟩ := h
      subst h1
      cases m with
      | v =>
        rw [if_pos rfl] at h2
        refine je_and (chkE_ok a c .v al l h2) ?_
        cases rest with
        | nil => rw [if_pos rfl] at h3; exact je_one (chkE_ok b c .v al r h3)
        | cons z zs => rw [if_pos rfl] at h3; exact chkE_ok b c .v al _ h3
      | t =>
        rw [if_neg (by decide)] at h2
        refine (jw_and (chkE_ok a c .t al l h2) ?_).pt
        cases rest with
        | nil => rw [if_neg (by decide)] at h3; exact jw_one (chkE_ok b c .t al r h3)
        | cons z zs => rw [if_neg (by decide)] at h3; exact chkE_ok b c .w al _ h3
      | w =>
        rw [if_neg (by decide)] at h2
        refine jw_and (chkE_ok a c .t al l h2) ?_
        cases rest with
        | nil => rw [if_neg (by decide)] at h3; exact jw_one (chkE_ok b c .t al r h3)
        | cons z zs => rw [if_neg (by decide)] at h3; exact chkE_ok b c .w al _ h3
  | .or a b, top, sc, Eo, X, c, m, al, e, h => by
    unfold chkE at h
    cases q : vBool e with
    | none => rw [q] at h; cases h
    | some t =>
      obtain ⟨op, l, r, rest, p⟩ := t
      rw [q] at h
      have := vBool_ok q
      subst this
      simp only [Bool.and_eq_true, beq_iff_eq] at h
      obtain ⟨⟨h1, h2⟩, h3⟩ := h
      subst h1
      cases m with
      | v =>
        rw [if_pos rfl] at h2
        refine je_or (chkE_ok a c .v al l h2) ?_
        cases rest with
        | nil => rw [if_pos rfl] at h3; exact je_one (chkE_ok b c .v al r h3)
        | cons z zs => rw [if_pos rfl] at h3; exact chkE_ok b c .v al _ h3
      | t =>
        rw [if_neg (by decide)] at h2
        refine (jw_or (chkE_ok a c .t al l h2) ?_).pt
        cases rest with
        | nil => rw [if_neg (by decide)] at h3; exact jw_one (chkE_ok b c .t al r h3)
        | cons z zs => rw [if_neg (by decide)] at h3; exact chkE_ok b c .w al _ h3
      | w =>
        rw [if_neg (by decide)] at h2
        refine jw_or (chkE_ok a c .t al l h2) ?_
        cases rest with
        | nil => rw [if_neg (by decide)] at h3; exact jw_one (chkE_ok b c .t al r h3)
        | cons z zs => rw [if_neg (by decide)] at h3; exact chkE_ok b c .w al _ h3
  | .not a, top, sc, Eo, X, c, m, al, e, h => by
    unfold chkE at h
    cases q : vNot e with
    | none => rw [q] at h; cases h
    | some l =>
      rw [q] at h
      obtain ⟨p, rfl⟩ := vNot_ok q
      simp only [Bool.and_eq_true] at h
      cases m with
      | v => rw [if_pos rfl] at h; exact je_not (chkE_ok a c .v true l h.2)
      | t => rw [if_neg (by decide)] at h; exact jt_not (chkE_ok a c .t true l h.2)
      | w => simp at h
  | .ite cc a b, top, sc, Eo, X, c, m, al, e, h => by
    unfold chkE at h
    cases q : vIte e with
    | none => rw [q] at h; cases h
    | some t =>
      obtain ⟨z, l, r⟩ := t
      rw [q] at h
      obtain ⟨p, rfl⟩ := vIte_ok q
      simp only [Bool.and_eq_true] at h
      obtain ⟨⟨⟨h1, h2⟩, h3⟩, h4⟩ := h
      have := okv h1
      subst this
      exact je_ite (chkE_ok cc c .t true z h2) (chkE_ok a c .v al l h3) (chkE_ok b c .v al r h4)
  | .tup es, top, sc, Eo, X, c, m, al, e, h => by
    unfold chkE at h
    cases q : vTup e with
    | none => rw [q] at h; cases h
    | some l =>
      rw [q] at h
      obtain ⟨k, p, rfl⟩ := vTup_ok q
      simp only [Bool.and_eq_true, decide_eq_true_eq] at h
      exact Good.of2 (je_tup (Nat.le_trans h.1.2 (by decide)) (chkEs_ok es c al l h.2).1) h.1.1
  | .lst es, top, sc, Eo, X, c, m, al, e, h => by
    unfold chkE at h
    cases q : vLst e with
    | none => rw [q] at h; cases h
    | some l =>
      rw [q] at h
      obtain ⟨p, rfl⟩ := vLst_ok q
      simp only [Bool.and_eq_true, decide_eq_true_eq] at h
      exact Good.of2 (je_lst (Nat.le_trans h.1.2 (by decide)) (chkEs_ok es c al l h.2).1) h.1.1
  | .idx a i, top, sc, Eo, X, c, m, al, e, h => by
    unfold chkE at h
    cases q : vIdx e with
    | none => rw [q] at h; cases h
    | some t =>
      obtain ⟨l, r⟩ := t
      rw [q] at h
      obtain ⟨p, rfl⟩ := vIdx_ok q
      simp only [Bool.and_eq_true, Bool.or_eq_true, Bool.not_eq_true'] at h
      obtain ⟨⟨⟨h1, h2⟩, h3⟩, h4⟩ := h
      refine Good.of2 ?_ h1
      rcases h4 with h4 | h4
      · exact je_idx (plainIx_ok h2) (chkE_ok a c .v al l h4) (chkE_ok i c .v true r h3)
      · split at h4
        · rename_i n x q2
          obtain ⟨p2, rfl⟩ := vName_ok q2
          simp only [Bool.and_eq_true, beq_iff_eq] at h4
          obtain ⟨v1, v2, v3⟩ := vis_ok c h4.1.2
          exact je_idx_own (plainIx_ok h2) (by rw [c.hN]; exact h4.1.1) v1 v2 v3 (by rw [c.ms]; exact contains_iff.mp h4.2) (chkE_ok i c .v true r h3)
        · cases h4
  | .slice a lo hi, top, sc, Eo, X, c, m, al, e, h => by
    unfold chkE at h
    cases q : vSl e with
    | none => rw [q] at h; cases h
    | some t =>
      obtain ⟨l, p, z⟩ := t
      rw [q] at h
      obtain ⟨p2, p3, rfl⟩ := vSl_ok q
      simp only [Bool.and_eq_true] at h
      obtain ⟨⟨⟨h1, h2⟩, h3⟩, h4⟩ := h
      exact Good.of2 (je_slice (chkE_ok a c .v al l h2) (chkO_ok lo c p h3) (chkO_ok hi c z h4)) h1
  | .call f es, top, sc, Eo, X, c, m, al, e, h => by
    unfold chkE at h
    cases q : vCall e with
    | none => rw [q] at h; cases h
    | some t =>
      obtain ⟨x, l⟩ := t
      rw [q] at h
      obtain ⟨p, pos, rfl⟩ := vCall_ok q
      simp only [Bool.and_eq_true, beq_iff_eq] at h
      obtain ⟨⟨⟨h1, h2⟩, h3⟩, h4⟩ := h
      obtain ⟨v1, v2⟩ := gl_ok c h2
      obtain ⟨k, fa, fd, ps, k1, k2, k3, k4, k5, k6⟩ := c.fn _ _ _ h3
      obtain ⟨j1, j2, j3, j4, j5⟩ := chkEs_ok es c al l h4
      exact Good.of2 (je_call k2 k3 v1 k1 k4 k5 c.pass k6.symm j3 j4 j2 v2) h1
  | .bi b es, top, sc, Eo, X, c, m, al, e, h => by
    unfold chkE at h
    cases q : vCall e with
    | none => rw [q] at h; cases h
    | some t =>
      obtain ⟨x, l⟩ := t
      rw [q] at h
      obtain ⟨p, pos, rfl⟩ := vCall_ok q
      simp only [Bool.and_eq_true, beq_iff_eq] at h
      obtain ⟨⟨⟨⟨h1, h2⟩, h3⟩, h4⟩, h5⟩ := h
      obtain ⟨v1, v2, v3, v4⟩ := bn_ok c h2
      obtain ⟨j1, j2, j3, j4, j5⟩ := chkEs_ok es c al l h5
      cases l with
      | nil => cases h4
      | cons e es => exact Good.of2 (cb_ok c.calm c.hu h3 v1 v3 v4 v2 j4 j1) h1
  | .lrange es, top, sc, Eo, X, c, m, al, e, h => by
    unfold chkE at h
    split at h
    · rename_i x e2 q
      obtain ⟨p, pos, rfl⟩ := vCall_ok q
      simp only [Bool.and_eq_true, beq_iff_eq] at h
      obtain ⟨⟨⟨h1, h2⟩, h3⟩, h4⟩ := h
      subst h3
      obtain ⟨v1, v2, v3, v4⟩ := bn_ok c h2
      split at h4
      · rename_i y l q2
        obtain ⟨p2, pos2, rfl⟩ := vCall_ok q2
        simp only [Bool.and_eq_true, beq_iff_eq] at h4
        obtain ⟨⟨⟨g1, g2⟩, g3⟩, g4⟩ := h4
        subst g2
        obtain ⟨w1, w2, w3, w4⟩ := bn_ok c g1
        obtain ⟨j1, j2, j3, j4, j5⟩ := chkEs_ok es c true l g4
        match l, es, j3, g3, j4, j5 with
        | [a], [xa], _, _, j4, j5 => exact Good.of2 (je_lrange1 c.calm v1 v3 w1 w3 (j4 a List.mem_cons_self) (j5 0 a xa rfl rfl)) h1
        | [], _, _, g3, _, _ => cases g3
        | _ :: _ :: _, _, _, g3, _, _ => simp at g3
        | [_], [], j3, _, _, _ => cases j3
        | [_], _ :: _ :: _, j3, _, _, _ => simp at j3
      · cases h4
    · cases h
  | .isi a t, top, sc, Eo, X, c, m, al, e, h => by
    unfold chkE at h
    split at h
    · rename_i x l ty q
      obtain ⟨p, pos, rfl⟩ := vCall_ok q
      simp only [Bool.and_eq_true, beq_iff_eq] at h
      obtain ⟨⟨⟨h1, h2⟩, h3⟩, h4⟩ := h
      subst h3
      obtain ⟨v1, v2, v3, v4⟩ := bn_ok c h2
      split at h4
      · rename_i y q2
        obtain ⟨p2, rfl⟩ := vName_ok q2
        simp only [Bool.and_eq_true, beq_iff_eq, Bool.not_eq_true'] at h4
        obtain ⟨⟨⟨g1, g2⟩, g3⟩, g4⟩ := h4
        subst g2
        obtain ⟨w1, w2, w3, w4⟩ := bn_ok c g1
        exact Good.of2 (je_isi v1 v3 boot_isi v4 v2 w1 w3 (boot_ty t) w4 w2 g3 (chkE_ok a c .v true l g4)) h1
      · cases h4
    · cases h
  | .comp tg own it cd x, top, sc, Eo, X, c, m, al, e, h => by
    have hm : m = .v := by
      unfold chkE at h
      cases q : vComp e with
      | none => rw [q] at h; cases h
      | some t =>
        obtain ⟨elt, tge, iter, ifs, scope, p⟩ := t
        rw [q] at h
        simp only [Bool.and_eq_true] at h
        exact okv h.1.1.1.1.1.1.1.1
    subst hm
    exact (comp_mk c h (fun tge iter hh => chkI_ok it c tge iter hh) (fun c' l hh => chkC_ok cd c' l hh) (fun c' e hh => chkE_ok x c' .v al e hh)).je
  | .comp2 tg own it cd tg1 own1 it1 cd1 x, top, sc, Eo, X, c, m, al, e, h => by
    have hm : m = .v := by
      unfold chkE at h
      cases q : vComp2 e with
      | none => rw [q] at h; cases h
      | some t =>
        obtain ⟨elt, ⟨tge, iter, ifs⟩, ⟨tge1, iter1, ifs1⟩, scope, p⟩ := t
        rw [q] at h
        simp only [Bool.and_eq_true] at h
        exact okv h.1.1.1.1.1.1.1.1.1.1.1.1.1.1
    subst hm
    exact (comp2_mk c h (fun tge iter hh => chkI_ok it c tge iter hh) (fun c' l hh => chkC_ok cd c' l hh) (fun c' tge iter hh => chkI_ok it1 c' tge iter hh) (fun c' l hh => chkC_ok cd1 c' l hh) (fun c' e hh => chkE_ok x c' .v al e hh)).je
theorem chkI_ok : ∀ (it : It) {top : Bool} {sc : Scope} {Eo : XK} {X : Cx} (c : CtxOk C top sc g Eo X) (tge iter : Expr), chkI C sc it tge iter = true → JI g Eo X false tge iter it
  | .ex x, top, sc, Eo, X, c, tge, iter, h => by
    unfold chkI at h
    exact ji_ex (chkE_ok x c .v false iter h)
  | .range es, top, sc, Eo, X, c, tge, iter, h => by
    unfold chkI at h
    cases q : vCall iter with
    | none => rw [q] at h; cases h
    | some t =>
      obtain ⟨x, l⟩ := t
      rw [q] at h
      obtain ⟨p, pos, rfl⟩ := vCall_ok q
      simp only [Bool.and_eq_true, Bool.or_eq_true, beq_iff_eq] at h
      obtain ⟨⟨⟨h1, h2⟩, h3⟩, h4⟩ := h
      subst h2
      obtain ⟨v1, v2, v3, v4⟩ := bn_ok c h1
      obtain ⟨j1, j2, j3, j4, j5⟩ := chkEs_ok es c true l h4
      match l, es, j3, h3, j1, j4 with
      | [a], [xa], _, _, j1, j4 => exact ji_range1 v1 v3 (j4 a List.mem_cons_self) j1
      | [a, b], [xa, xb], _, _, j1, j4 => exact ji_range2 v1 v3 (j4 a List.mem_cons_self) (j4 b (List.mem_cons_of_mem _ List.mem_cons_self)) j1
      | [], _, _, h3, _, _ => simp at h3
      | _ :: _ :: _ :: _, _, _, h3, _, _ => simp at h3
      | [_], [], j3, _, _, _ => cases j3
      | [_], _ :: _ :: _, j3, _, _, _ => simp at j3
      | [_, _], [], j3, _, _, _ => cases j3
      | [_, _], [_], j3, _, _, _ => simp at j3
      | [_, _], _ :: _ :: _ :: _, j3, _, _, _ => simp at j3
  | .enum a, top, sc, Eo, X, c, tge, iter, h => by
    unfold chkI at h
    split at h
    · rename_i x l q
      obtain ⟨p, pos, rfl⟩ := vCall_ok q
      simp only [Bool.and_eq_true, beq_iff_eq, Bool.not_eq_true'] at h
      obtain ⟨⟨⟨⟨h1, h2⟩, h3⟩, h4⟩, h5⟩ := h
      subst h2
      obtain ⟨v1, v2, v3, v4⟩ := bn_ok c h1
      obtain ⟨es, q2⟩ := Option.isSome_iff_exists.mp h3
      obtain ⟨k, p2, rfl⟩ := vTup_ok q2
      exact ji_enum v1 v3 h4 (chkE_ok a c .v false l h5)
    · cases h
  | .zip a b, top, sc, Eo, X, c, tge, iter, h => by
    unfold chkI at h
    split at h
    · rename_i x l r q
      obtain ⟨p, pos, rfl⟩ := vCall_ok q
      simp only [Bool.and_eq_true, beq_iff_eq, Bool.not_eq_true'] at h
      obtain ⟨⟨⟨⟨⟨⟨h1, h2⟩, h3⟩, h4⟩, h5⟩, h6⟩, h7⟩ := h
      subst h2
      obtain ⟨v1, v2, v3, v4⟩ := bn_ok c h1
      obtain ⟨es, q2⟩ := Option.isSome_iff_exists.mp h3
      obtain ⟨k, p2, rfl⟩ := vTup_ok q2
      exact ji_zip v1 v3 h4 h5 (chkE_ok a c .v false l h6) (chkE_ok b c .v false r h7)
    · cases h
theorem chkC_ok : ∀ (x : Option Ex) {top : Bool} {sc : Scope} {X : Cx} (c : CtxOk C top sc g E0 X) (l : List Expr), chkC C sc x l = true → PTs X l (tCd g E0 X.K x)
  | none, top, sc, X, c, l, h => by
    unfold chkC at h
    cases l with
    | nil => exact pts_nil
    | cons _ _ => cases h
  | some x, top, sc, X, c, l, h => by
    unfold chkC at h
    split at h
    · exact pts_one (chkE_ok x c .t true _ h)
    · cases h
theorem chkO_ok : ∀ (x : Option Ex) {top : Bool} {sc : Scope} {Eo : XK} {X : Cx} (c : CtxOk C top sc g Eo X) (e : Option Expr), chkO C sc x e = true → JO g Eo X e x
  | none, top, sc, Eo, X, c, e, h => by
    unfold chkO at h
    cases e with
    | none => exact jo_none
    | some _ => cases h
  | some x, top, sc, Eo, X, c, e, h => by
    unfold chkO at h
    cases e with
    | none => cases h
    | some e => exact jo_some (chkE_ok x c .v true e h)
theorem chkEs_ok : ∀ (xs : List Ex) {top : Bool} {sc : Scope} {Eo : XK} {X : Cx} (c : CtxOk C top sc g Eo X) (al : Bool) (es : List Expr), chkEs C sc al xs es = true → JD g Eo X al es xs ∧ JA g Eo X al es xs ∧ es.length = xs.length ∧ (∀ e ∈ es, isStar e = false) ∧ ∀ (i : Nat) e x, es[i]? = some e → xs[i]? = some x → JE g Eo X al e x
  | [], top, sc, Eo, X, c, al, es, h => by
    unfold chkEs at h
    cases es with
    | nil => exact ⟨jd_nil, ja_nil, rfl, fun e he => absurd he (by simp), fun i e x h => by simp at h⟩
    | cons _ _ => cases h
  | x :: xs, top, sc, Eo, X, c, al, es, h => by
    unfold chkEs at h
    cases es with
    | nil => cases h
    | cons e es =>
      simp only [Bool.and_eq_true, Bool.not_eq_true'] at h
      obtain ⟨⟨h1, h2⟩, h3⟩ := h
      have j := chkE_ok x c .v al e h2
      obtain ⟨j1, j2, j3, j4, j5⟩ := chkEs_ok xs c al es h3
      refine ⟨jd_cons h1 j j1, ja_cons h1 j j2, by simp [j3], fun a ha => ?_, fun i a b ha hb => ?_⟩
      · rcases List.mem_cons.mp ha with q | q
        · rw [q]; exact h1
        · exact j4 a q
      · cases i with
        | zero => simp at ha hb; subst ha; subst hb; exact j
        | succ i => exact j5 i a b (by simpa using ha) (by simpa using hb)
end
end
end Wv

set_option Elab.async false
set_option autoImplicit false
set_option linter.all false
set_option maxRecDepth 100000
set_option maxHeartbeats 4000000
namespace Wv
open PySem PySem.Spec PyProof.Rows L2 PySem.W
theorem blockKind_of {env : PySem.Env} (hk : env.scope.kind = .function) : env.blockKind = .function := by
  unfold Env.blockKind; rw [hk]; rfl
theorem any_star {vs : List Expr} {f : Expr → Bool} (h : ∀ e, f e = isStar e) : vs.any f = vs.any isStar := by rw [funext h]
theorem swP_ok {ts vs : List Expr} {kt k2 : Nat} {pt p2 : Pos} {env : PySem.Env} (hk : env.scope.kind = .function) {r : Option (List Str)} (h : swP env.scope ts vs = some r) : swappedStores [.Tuple ts kt pt] (.Tuple vs k2 p2) env = pure r := by
  unfold swP at h
  unfold swappedStores
  simp only [bind_pure_comp, blockKind_of hk, Env.kindOf]
  by_cases h1 : (!(ts.length == 2 || ts.length == 3) || vs.length != ts.length) = true
  · rw [if_pos h1] at h
    cases h
    rw [if_pos (by rw [h1]; rfl)]
  · rw [if_neg h1] at h
    rw [if_neg (by simp only [Bool.not_eq_true] at h1; rw [h1]; decide)]
    by_cases h2 : vs.any isStar = true
    · rw [if_pos h2] at h
      cases h
      rw [if_pos (by rw [any_star (fun e => by cases e <;> rfl)]; exact h2)]
    · rw [if_neg h2] at h
      rw [if_neg (by rw [any_star (fun e => by cases e <;> rfl)]; exact h2)]
      revert h
      simp only []
      generalize hN : List.filterMap _ ts = names
      intro h
      have e : ∀ (f : Expr → Option Str), (List.filterMap f ts = names) → True := fun _ _ => True.intro
      generalize hM : List.filterMap _ ts = names2
      have : names2 = names := by rw [← hN, ← hM]; rfl
      subst this
      split at h
      · rename_i h3
        cases h
        rw [if_pos h3]
      · rename_i h3
        rw [if_neg h3]
        split at h
        · rename_i h4
          cases h
          rw [if_pos h4]
        · rename_i h4
          rw [if_neg h4]
          split at h
          · cases h
          · rename_i h5
            cases h
            rw [if_neg h5]
theorem swNone_ok {tg e : Expr} {env : PySem.Env} (hk : env.scope.kind = .function) (h : swNone env.scope tg e = true) : swappedStores [tg] e env = pure none := by
  unfold swNone at h
  simp only [Bool.and_eq_true, Bool.not_eq_true'] at h
  obtain ⟨h0, h⟩ := h
  cases q : vTup tg with
  | some ts =>
    obtain ⟨k, p, rfl⟩ := vTup_ok q
    cases q2 : vTup e with
    | some vs =>
      obtain ⟨k2, p2, rfl⟩ := vTup_ok q2
      rw [q, q2] at h
      exact swP_ok hk (by simpa using h)
    | none => cases e <;> first | rfl | (simp [vTup] at q2)
  | none => cases tg <;> first | rfl | (simp [vTup] at q; done) | (simp [isTgList] at h0; done)
theorem asg1 {e : Expr} (h : isStar e = false) (env : PySem.Env) : (assignEach [e] env).map (·.2) = [assign e env] := by
  rw [asgEach h]; rfl
/-- a comprehension stored: which road -/
theorem swc {elt : Expr} {gs : List Comprehension} {scope : Scope} {p py : Pos} {y : Str} {l : Nat} {env : PySem.Env} : ∃ b, swapsWith (.ListComp elt gs scope p) (some (.Name y py)) l env = pure b ∧ (b = true → env.scope.names.lookup y = some .local) := by
  refine ⟨_, rfl, fun h => ?_⟩
  simp only [Bool.and_eq_true, beq_iff_eq] at h
  exact h.1.1.2
section
variable {C : Cc} {g : Sg} {sc : Scope} {Eo : XK} {X : Cx}
theorem sto_ok (c : CtxOk C true sc g Eo X) {i : Nat} {y : Str} (h : stoB C true sc i y = true) : X.N[i]? = some y ∧ Loc X.env.scope y := by
  unfold stoB at h
  simp only [Bool.and_eq_true, Bool.or_eq_true, beq_iff_eq] at h
  refine ⟨by rw [c.hN]; exact h.1, ?_⟩
  rw [c.sc]
  exact h.2.imp id fun z => z.2
theorem fn_top (c : CtxOk C true sc g Eo X) (y : Str) : X.fn y = true ∨ X.env.scope.names.lookup y = some .local := .inl (c.top rfl y)
theorem chkF_ok (c : CtxOk C true sc g Eo X) {x : Ex} {e : Expr} (h : chkF C sc x e = true) : JF g Eo X e x := by
  unfold chkF at h
  split at h
  · rename_i es
    cases q : vLst e with
    | none => rw [q] at h; cases h
    | some l =>
      rw [q] at h
      obtain ⟨p, rfl⟩ := vLst_ok q
      simp only [Bool.and_eq_true, decide_eq_true_eq] at h
      exact jf_lst (Nat.le_trans h.1 (by decide)) (chkEs_ok es c false l h.2).1
  · rename_i a b
    cases q : vBin e with
    | none => rw [q] at h; cases h
    | some t =>
      obtain ⟨l, op, r⟩ := t
      rw [q] at h
      obtain ⟨p, rfl⟩ := vBin_ok q
      simp only [Bool.and_eq_true, beq_iff_eq] at h
      obtain ⟨⟨h2, h3⟩, h4⟩ := h
      subst h2
      exact jf_mul (chkE_ok a c .v false l h3) (chkE_ok b c .v true r h4)
  · cases h
theorem bop_as {o : Bop} {op : Operator} (h : op = bopO o) (h2 : o = .add ∨ o = .sub) : (op = .Add ∧ o = .add) ∨ (op = .Sub ∧ o = .sub) := by
  subst h
  rcases h2 with rfl | rfl
  · exact .inl ⟨rfl, rfl⟩
  · exact .inr ⟨rfl, rfl⟩
theorem tgIx_ok (c : CtxOk C true sc g Eo X) {tg : Tgt} (h : (tgIx tg).all (fun i => !C.ms.contains i) = true) : ∀ i ∈ tgIx tg, i ∉ g.ms := fun i hi => by
  rw [c.ms]
  exact notcontains (List.all_eq_true.mp h i hi)
theorem parB_ok (c : CtxOk C true sc g Eo X) : ∀ (is : List Nat) (es : List Expr), parB C sc is es = true → ∃ xs : List (Str × Pos), es = xs.map (fun p => .Name p.1 p.2) ∧ xs.length = is.length ∧ namesOf es = some (xs.map (·.1)) ∧ ∀ (k i : Nat) (x : Str × Pos), is[k]? = some i → xs[k]? = some x → X.N[i]? = some x.1 ∧ X.env.scope.names.lookup x.1 = some .local ∧ i ∉ g.ms
  | [], es, h => by
    cases es with
    | nil => exact ⟨[], rfl, rfl, rfl, fun k i x h => by simp at h⟩
    | cons _ _ => simp [parB] at h
  | i :: is, es, h => by
    cases es with
    | nil => simp [parB] at h
    | cons e es =>
      simp only [parB, Bool.and_eq_true] at h
      obtain ⟨⟨h1, h2⟩, h3⟩ := h
      cases q : vName e with
      | none => rw [q] at h1; cases h1
      | some x =>
        rw [q] at h1
        obtain ⟨p, rfl⟩ := vName_ok q
        simp only [Bool.and_eq_true, beq_iff_eq] at h1
        obtain ⟨xs, e1, e2, e3, e4⟩ := parB_ok c is es h3
        refine ⟨(x, p) :: xs, by rw [e1]; rfl, by simp [e2], by unfold namesOf; rw [q, e3]; rfl, fun k j y hk hy => ?_⟩
        cases k with
        | zero =>
          simp at hk hy
          subst hk; subst hy
          exact ⟨by rw [c.hN]; exact h1.1, by rw [c.sc]; exact h1.2, by rw [c.ms]; exact notcontains h2⟩
        | succ k => exact e4 k j y (by simpa using hk) (by simpa using hy)
mutual
theorem chkS_ok (c : CtxOk C true sc g Eo X) (hp : PassesOwn (model X.prog X.w) X.A X.env X.xe) (hk : X.env.scope.kind = .function) : ∀ (x : St) (st : Stmt), chkS C sc x st = true → JS g Eo X st x
  | .set fl i x, st, h => by
    unfold chkS at h
    cases q : vSet st with
    | none => rw [q] at h; cases h
    | some t =>
      obtain ⟨t, e, p⟩ := t
      rw [q] at h
      have := vSet_ok q
      subst this
      cases q2 : vName t with
      | none => simp only [q2] at h; cases h
      | some y =>
        simp only [q2] at h
        obtain ⟨py, rfl⟩ := vName_ok q2
        simp only [Bool.and_eq_true] at h
        obtain ⟨⟨h1, h2⟩, h4⟩ := h
        obtain ⟨k1, k2⟩ := sto_ok c h1
        have hi : i ∉ g.ms := by rw [c.ms]; exact notcontains h2
        have nd : X.N.Nodup := by rw [c.hN]; exact c.nd
        by_cases hcmp : isComp e = true
        · have fin : CompOk g Eo X fl e x → JS g Eo X (.Assign [.Name y py] e p) (.set fl i x) := fun cmp => by
            obtain ⟨te, j1, j2, j3, elt, gs, scope, p', rfl⟩ := cmp.ex
            obtain ⟨b, hb, hb2⟩ := swc (elt := elt) (gs := gs) (scope := scope) (p := p') (py := py) (y := y) (l := p.line) (env := X.env)
            cases b with
            | true => exact js_set (j2 k1 (hb2 rfl) hb) j3 hi
            | false => exact js_set (ps_set nd k1 k2 cmp.je hb (fn_top c y)) (fun _ _ _ q => q) hi
          match x, h4 with
          | .comp tg own it cd x, h4 => exact fin (comp_mk c h4 (fun tge iter hh => chkI_ok it c tge iter hh) (fun c' l hh => chkC_ok cd c' l hh) (fun c' e hh => chkE_ok x c' .v fl e hh))
          | .comp2 tg own it cd tg1 own1 it1 cd1 x, h4 => exact fin (comp2_mk c h4 (fun tge iter hh => chkI_ok it c tge iter hh) (fun c' l hh => chkC_ok cd c' l hh) (fun c' tge iter hh => chkI_ok it1 c' tge iter hh) (fun c' l hh => chkC_ok cd1 c' l hh) (fun c' e hh => chkE_ok x c' .v fl e hh))
          | .v _, h4 => cases e <;> first | (simp [isComp] at hcmp; done) | (simp [chkE, vName] at h4; done)
          | .c _, h4 => cases e <;> first | (simp [isComp] at hcmp; done) | (simp [chkE, vConst] at h4; done)
          | .g _, h4 => cases e <;> first | (simp [isComp] at hcmp; done) | (simp [chkE, vName] at h4; done)
          | .bin _ _ _, h4 => cases e <;> first | (simp [isComp] at hcmp; done) | (simp [chkE, vBin] at h4; done)
          | .cmp _ _ _, h4 => cases e <;> first | (simp [isComp] at hcmp; done) | (simp [chkE, vCmp1] at h4; done)
          | .chain _ _ _ _ _, h4 => cases e <;> first | (simp [isComp] at hcmp; done) | (simp [chkE, vCmp2] at h4; done)
          | .and _ _, h4 => cases e <;> first | (simp [isComp] at hcmp; done) | (simp [chkE, vBool] at h4; done)
          | .or _ _, h4 => cases e <;> first | (simp [isComp] at hcmp; done) | (simp [chkE, vBool] at h4; done)
          | .not _, h4 => cases e <;> first | (simp [isComp] at hcmp; done) | (simp [chkE, vNot] at h4; done)
          | .ite _ _ _, h4 => cases e <;> first | (simp [isComp] at hcmp; done) | (simp [chkE, vIte] at h4; done)
          | .tup _, h4 => cases e <;> first | (simp [isComp] at hcmp; done) | (simp [chkE, vTup] at h4; done)
          | .lst _, h4 => cases e <;> first | (simp [isComp] at hcmp; done) | (simp [chkE, vLst] at h4; done)
          | .idx _ _, h4 => cases e <;> first | (simp [isComp] at hcmp; done) | (simp [chkE, vIdx] at h4; done)
          | .slice _ _ _, h4 => cases e <;> first | (simp [isComp] at hcmp; done) | (simp [chkE, vSl] at h4; done)
          | .call _ _, h4 => cases e <;> first | (simp [isComp] at hcmp; done) | (simp [chkE, vCall] at h4; done)
          | .bi _ _, h4 => cases e <;> first | (simp [isComp] at hcmp; done) | (simp [chkE, vCall] at h4; done)
          | .lrange _, h4 => cases e <;> first | (simp [isComp] at hcmp; done) | (simp [chkE, vCall] at h4; done)
          | .isi _ _, h4 => cases e <;> first | (simp [isComp] at hcmp; done) | (simp [chkE, vCall] at h4; done)
        · exact js_set (ps_set nd k1 k2 (chkE_ok x c .v fl e h4) (sw_no (by simpa using hcmp) _ _ _) (fn_top c y)) (fun _ _ _ q => q) hi
  | .setL i x, st, h => by
    unfold chkS at h
    cases q : vSet st with
    | none => rw [q] at h; cases h
    | some t =>
      obtain ⟨t, e, p⟩ := t
      rw [q] at h
      have := vSet_ok q
      subst this
      cases q2 : vName t with
      | none => simp only [q2] at h; cases h
      | some y =>
        simp only [q2] at h
        obtain ⟨py, rfl⟩ := vName_ok q2
        simp only [Bool.and_eq_true, Bool.not_eq_true'] at h
        obtain ⟨⟨⟨h1, h2⟩, h3⟩, h4⟩ := h
        obtain ⟨k1, k2⟩ := sto_ok c h1
        exact js_setL (ps_set (by rw [c.hN]; exact c.nd) k1 k2 (chkF_ok c h4) (sw_no h3 _ _ _) (fn_top c y)) (fun _ _ _ q => q) (by rw [c.ms]; exact contains_iff.mp h2)
  | .move i j, st, h => by
    unfold chkS at h
    cases q : vSet st with
    | none => rw [q] at h; cases h
    | some t =>
      obtain ⟨t, e, p⟩ := t
      rw [q] at h
      have := vSet_ok q
      subst this
      cases q2 : vName t with
      | none => simp only [q2] at h; cases h
      | some y =>
        cases q3 : vName e with
        | none => simp only [q2, q3] at h; cases h
        | some z =>
          simp only [q2, q3] at h
          obtain ⟨py, rfl⟩ := vName_ok q2
          obtain ⟨pz, rfl⟩ := vName_ok q3
          simp only [Bool.and_eq_true, beq_iff_eq] at h
          obtain ⟨⟨⟨⟨h1, h2⟩, h3⟩, h4⟩, h5⟩ := h
          obtain ⟨k1, k2⟩ := sto_ok c h1
          obtain ⟨v1, v2, v3⟩ := vis_ok c h3
          exact js_move (ps_set (by rw [c.hN]; exact c.nd) k1 k2 (pe_var (by rw [c.hN]; exact h2) v1 v2 v3) (sw_no rfl _ _ _) (fn_top c y)) (by rw [c.ms]; exact notcontains h4) (by rw [c.ms]; exact contains_iff.mp h5)
  | .par is xs, st, h => by
    unfold chkS at h
    cases q : vSet st with
    | none => rw [q] at h; cases h
    | some t =>
      obtain ⟨t, e, p⟩ := t
      rw [q] at h
      have := vSet_ok q
      subst this
      cases q2 : vTup t with
      | none => simp only [q2] at h; cases h
      | some ts =>
        cases q3 : vTup e with
        | none => simp only [q2, q3] at h; cases h
        | some es =>
          simp only [q2, q3] at h
          obtain ⟨k, p2, rfl⟩ := vTup_ok q2
          obtain ⟨k', p3, rfl⟩ := vTup_ok q3
          simp only [Bool.and_eq_true, Bool.or_eq_true, beq_iff_eq] at h
          obtain ⟨⟨⟨⟨⟨⟨⟨h1, h2⟩, h3⟩, h4⟩, h5⟩, h6⟩, h7⟩, h8⟩ := h
          obtain ⟨ns, e1, e2, e3, e4⟩ := parB_ok c is ts h1
          have nd : is.Nodup := by simpa [nodupB] using h3
          have hN : X.N.Nodup := by rw [c.hN]; exact c.nd
          obtain ⟨j1, j2, j3, j4, j5⟩ := chkEs_ok xs c false es h8
          rw [← c.sc, e3] at h7
          subst e1
          match is, ns, es, h2, e2, h6, e4, nd with
          | [i, j], [(x, px), (y, py)], [a, b], _, _, _, e4, nd =>
            obtain ⟨a1, a2, a3⟩ := e4 0 i (x, px) rfl rfl
            obtain ⟨b1, b2, b3⟩ := e4 1 j (y, py) rfl rfl
            have hij : i ≠ j := by simp at nd; exact nd
            exact js_par2 (es := [a, b]) (ps_par c.calm hN a1 b1 hij a2 b2 j2 (swP_ok hk h7) rfl) (fun _ _ _ q => q) a3 b3
          | [i, j, l], [(x, px), (y, py), (z, pz)], [a, b, d], _, _, _, e4, nd =>
            obtain ⟨a1, a2, a3⟩ := e4 0 i (x, px) rfl rfl
            obtain ⟨b1, b2, b3⟩ := e4 1 j (y, py) rfl rfl
            obtain ⟨d1, d2, d3⟩ := e4 2 l (z, pz) rfl rfl
            have hnd : (i ≠ j ∧ i ≠ l) ∧ j ≠ l := by simp at nd; exact nd
            exact js_par3 (es := [a, b, d]) (ps_par3 c.calm hN a1 b1 d1 hnd.1.1 hnd.1.2 hnd.2 a2 b2 d2 j2 (swP_ok hk h7) rfl) (fun _ _ _ q => q) a3 b3 d3
          | [], _, _, h2, _, _, _, _ => simp at h2
          | [_], _, _, h2, _, _, _, _ => simp at h2
          | _ :: _ :: _ :: _ :: _, _, _, h2, _, _, _, _ => simp at h2
  | .unp fl tg x, st, h => by
    unfold chkS at h
    cases q : vSet st with
    | none => rw [q] at h; cases h
    | some t =>
      obtain ⟨t, e, p⟩ := t
      rw [q] at h
      have := vSet_ok q
      subst this
      simp only [Bool.and_eq_true, Bool.not_eq_true'] at h
      obtain ⟨⟨⟨⟨⟨h1, h2⟩, h3⟩, h4⟩, h5⟩, h6⟩ := h
      exact js_unp (ps_asg (chkE_ok x c .v fl e h6) (chkG_ok c tg t h1) (sws_no h4 _ _ _) (swNone_ok hk (by rw [c.sc]; exact h3)) (asg1 h2 _)) (fun _ _ _ q => q) (tgIx_ok c h5)
  | .app fl i x, st, h => by
    unfold chkS at h
    cases q : vMeth st with
    | none => rw [q] at h; cases h
    | some t =>
      obtain ⟨y, m, e, b⟩ := t
      rw [q] at h
      obtain ⟨py, apos, cpos, pos, rfl, hb⟩ := vMeth_ok q
      simp only [Bool.and_eq_true, beq_iff_eq, Bool.not_eq_true'] at h
      obtain ⟨⟨⟨⟨⟨⟨h1, h2⟩, h3⟩, h4⟩, h5⟩, h6⟩, h7⟩ := h
      subst h2
      obtain ⟨v1, v2, v3⟩ := vis_ok c h4
      exact js_app (by rw [c.hN]; exact h3) v1 v2 v3 (by rw [hb]; exact h1) h6 (by rw [c.ms]; exact contains_iff.mp h5) (chkE_ok x c .v fl e h7)
  | .ext fl i x, st, h => by
    unfold chkS at h
    cases q : vMeth st with
    | none => rw [q] at h; cases h
    | some t =>
      obtain ⟨y, m, e, b⟩ := t
      rw [q] at h
      obtain ⟨py, apos, cpos, pos, rfl, hb⟩ := vMeth_ok q
      simp only [Bool.and_eq_true, beq_iff_eq, Bool.not_eq_true'] at h
      obtain ⟨⟨⟨⟨⟨⟨h1, h2⟩, h3⟩, h4⟩, h5⟩, h6⟩, h7⟩ := h
      subst h2
      obtain ⟨v1, v2, v3⟩ := vis_ok c h4
      exact js_ext (by rw [c.hN]; exact h3) v1 v2 v3 (by rw [hb]; exact h1) h6 (by rw [c.ms]; exact contains_iff.mp h5) (chkE_ok x c .v fl e h7)
  | .seti fl i k x, st, h => by
    unfold chkS at h
    cases q : vSet st with
    | none => rw [q] at h; cases h
    | some t =>
      obtain ⟨t, e, p⟩ := t
      rw [q] at h
      have := vSet_ok q
      subst this
      cases q2 : vIdx t with
      | none => simp only [q2] at h; cases h
      | some oi =>
        obtain ⟨o, ke⟩ := oi
        simp only [q2] at h
        obtain ⟨p2, rfl⟩ := vIdx_ok q2
        cases q3 : vName o with
        | none => simp only [q3] at h; cases h
        | some y =>
          simp only [q3] at h
          obtain ⟨p3, rfl⟩ := vName_ok q3
          simp only [Bool.and_eq_true, beq_iff_eq, Bool.not_eq_true'] at h
          obtain ⟨⟨⟨⟨⟨⟨h1, h2⟩, h3⟩, h4⟩, h5⟩, h6⟩, h7⟩ := h
          obtain ⟨v1, v2, v3⟩ := vis_ok c h2
          exact js_seti (by rw [c.hN]; exact h1) v1 v2 v3 h4 h5 (chkE_ok x c .v fl e h7) (chkE_ok k c .v true ke h6) (by rw [c.ms]; exact contains_iff.mp h3) rfl rfl
  | .setH i k x, st, h => by
    unfold chkS at h
    cases q : vSet st with
    | none => rw [q] at h; cases h
    | some t =>
      obtain ⟨t, e, p⟩ := t
      rw [q] at h
      have := vSet_ok q
      subst this
      cases q2 : vIdx t with
      | none => simp only [q2] at h; cases h
      | some oi =>
        obtain ⟨o, ke⟩ := oi
        simp only [q2] at h
        obtain ⟨p2, rfl⟩ := vIdx_ok q2
        cases q3 : vName o with
        | none => simp only [q3] at h; cases h
        | some y =>
          simp only [q3] at h
          obtain ⟨p3, rfl⟩ := vName_ok q3
          simp only [Bool.and_eq_true, beq_iff_eq, Bool.not_eq_true'] at h
          obtain ⟨⟨⟨⟨⟨h1, h2⟩, h4⟩, h5⟩, h6⟩, h7⟩ := h
          obtain ⟨v1, v2, v3⟩ := vis_ok c h2
          exact js_setH (by rw [c.hN]; exact h1) v1 v2 v3 h4 h5 (chkE_ok x c .v true e h7) (chkE_ok k c .v true ke h6) rfl rfl
  | .augi i k o x, st, h => by
    unfold chkS at h
    cases q : vAug st with
    | none => rw [q] at h; cases h
    | some t =>
      obtain ⟨t, op, e⟩ := t
      rw [q] at h
      obtain ⟨p, rfl⟩ := vAug_ok q
      cases q2 : vIdx t with
      | none => simp only [q2] at h; cases h
      | some oi =>
        obtain ⟨oe, ke⟩ := oi
        simp only [q2] at h
        obtain ⟨p2, rfl⟩ := vIdx_ok q2
        cases q3 : vName oe with
        | none => simp only [q3] at h; cases h
        | some y =>
          simp only [q3] at h
          obtain ⟨p3, rfl⟩ := vName_ok q3
          simp only [Bool.and_eq_true, Bool.or_eq_true, beq_iff_eq, Bool.not_eq_true'] at h
          obtain ⟨⟨⟨⟨⟨⟨⟨h1, h2⟩, h3⟩, h4⟩, h5⟩, h6⟩, h7⟩, h8⟩ := h
          obtain ⟨v1, v2, v3⟩ := vis_ok c h2
          exact js_augi (by rw [c.hN]; exact h1) v1 v2 v3 h4 (chkE_ok x c .v true e h8) (chkE_ok k c .v true ke h7) (by rw [c.ms]; exact contains_iff.mp h3) (bop_as h5 h6)
  | .aug i o x, st, h => by
    unfold chkS at h
    cases q : vAug st with
    | none => rw [q] at h; cases h
    | some t =>
      obtain ⟨t, op, e⟩ := t
      rw [q] at h
      obtain ⟨p, rfl⟩ := vAug_ok q
      cases q2 : vName t with
      | none => simp only [q2] at h; cases h
      | some y =>
        simp only [q2] at h
        obtain ⟨p3, rfl⟩ := vName_ok q2
        simp only [Bool.and_eq_true, Bool.or_eq_true, beq_iff_eq] at h
        obtain ⟨⟨⟨⟨h1, h2⟩, h3⟩, h4⟩, h5⟩ := h
        obtain ⟨k1, k2⟩ := sto_ok c h1
        exact js_aug (by rw [c.hN]; exact c.nd) k1 k2 (fn_top c y) (chkE_ok x c .v true e h5) (bop_as h3 h4) (by rw [c.ms]; exact notcontains h2)
  | .ite cc a b, st, h => by
    unfold chkS at h
    split at h
    · simp only [Bool.and_eq_true] at h
      exact js_ite (chkE_ok cc c .t true _ h.1.1) (chkSs_ok c hp hk a _ h.1.2) (chkSs_ok c hp hk b _ h.2)
    · cases h
  | .for_ tg it body, st, h => by
    unfold chkS at h
    split at h
    · simp only [Bool.and_eq_true] at h
      obtain ⟨⟨⟨⟨h1, h2⟩, h3⟩, h4⟩, h5⟩ := h
      exact js_for hp c.calm (chkI_ok it c _ _ h4) (chkG_ok c tg _ h1) (chkSs_ok c hp hk body _ h5) (tgIx_ok c h2) (noSet_ok h3 _)
    · cases h
  | .whl cc body, st, h => by
    unfold chkS at h
    split at h
    · simp only [Bool.and_eq_true] at h
      exact js_whl hp (chkE_ok cc c .t true _ h.1) (chkSs_ok c hp hk body _ h.2)
    · cases h
  | .ret x, st, h => by
    unfold chkS at h
    split at h
    · exact js_ret (chkE_ok x c .v true _ h)
    · split at h
      · exact js_retN
      · cases h
    · cases h
  | .brk, st, h => by
    unfold chkS at h
    split at h
    · exact js_brk
    · cases h
  | .cont, st, h => by
    unfold chkS at h
    split at h
    · exact js_cont
    · cases h
  | .pass, st, h => by
    unfold chkS at h
    split at h
    · exact js_pass
    · cases h
  | .drop x, st, h => by
    unfold chkS at h
    split at h
    · simp only [Bool.and_eq_true, Bool.not_eq_true'] at h
      exact js_drop (chkE_ok x c .v true _ h.2) h.1
    · cases h
  | .raise _ _, st, h => by
    unfold chkS at h
    cases h
  | .never, st, h => js_never
theorem chkSs_ok (c : CtxOk C true sc g Eo X) (hp : PassesOwn (model X.prog X.w) X.A X.env X.xe) (hk : X.env.scope.kind = .function) : ∀ (xs : List St) (sts : List Stmt), chkSs C sc xs sts = true → JSs g Eo X sts xs
  | [], sts, h => by
    unfold chkSs at h
    cases sts with
    | nil => exact jss_nil
    | cons _ _ => cases h
  | x :: xs, sts, h => by
    unfold chkSs at h
    cases sts with
    | nil => cases h
    | cons st sts =>
      simp only [Bool.and_eq_true] at h
      exact jss_cons (chkS_ok c hp hk x st h.1) (chkSs_ok c hp hk xs sts h.2)
end
end
end Wv

set_option Elab.async false
set_option autoImplicit false
set_option linter.all false
set_option maxRecDepth 100000
set_option maxHeartbeats 4000000
namespace Wv
open PySem PySem.Spec PyProof.Rows L2 PySem.W
/-- a body's end as a call's end -/
theorem PostS.of_end {XR : XRep} {E : XK} {K : PySem.W.Frag} {H : Hp} {Z : Addr → Prop} {hd hc : Addr} {ms : List Nat} {Q : VK} {r : M Fl} {s : Hand} (zh : Z hd) (h : Post XR E hd hc H (fun H' v y => RepS K H' Z hd v y) Q (M.bnd r endF s)) :
    PostS XR E K H Z hd hc ms { nx := fun _ H' => Q .non H', rt := Q } (r s) := by
  unfold M.bnd at h
  cases e : r s with
  | ok f s1 =>
    rw [e] at h
    cases f with
    | nx ρ => exact fun σ H' R => h .non H' R.ext R.hand .non
    | rt x => exact fun v H' e1 h1 r1 => h v H' e1 h1 (r1.less fun a z => .inl z)
    | bk ρ => exact h.elim
    | ct ρ => exact h.elim
  | ex c as s1 => rw [e] at h; exact h
  | bad => rw [e] at h; exact h
structure DefOk (K : PySem.W.Frag) (mg : Str → Option Value) (P : List Fn) (gl : List (Str × (Nat × Nat))) (gc : List (Str × PyData)) (bn : List Str) (x : Str) (i np : Nat) : Prop where
  ex : ∃ (nm qual : Str) (st : Stmt) (kws : List (Str × V)) (f : Addr) (fd : FuncData) (N ps : List Str) (F : Fn), P[i]? = some F ∧ FunD K nm qual (defArgs st) (defBody st) (defScope st) [] kws f fd ∧ FnScope N ps (defScope st) ∧ Binds K fd ps [] ∧ mg x = some (.ref f) ∧
    chkSs ⟨N, gl, gc, bn, F.ms⟩ (defScope st) F.body (defBody st) = true ∧ F.np = ps.length ∧ F.n = N.length ∧ (∀ i ∈ F.ms, F.np ≤ i) ∧ ps.length = np
theorem spF_len {K : PySem.W.Frag} {XR : XRep} {call : Nat → List SV → M SV} {i np : Nat} : ∀ vs H Q E, spF K XR call i np vs H Q E → vs.length = np := fun _ _ _ _ h => h.1
theorem all_ok {prog : Program} {w : World} {K : PySem.W.Frag} {mg : Str → Option Value} {base : Heap} {XR : XRep} {P : List Fn} {gl : List (Str × (Nat × Nat))} {gc : List (Str × PyData)} {bn : List Str}
    (hD : ∀ x i np, gl.lookup x = some (i, np) → DefOk K mg P gl gc bn x i np)
    (hgc : ∀ x d, gc.lookup x = some d → ∃ v u, mg x = some u ∧ RelV v u ∧ ∀ H Z, Rep K H Z v d)
    (hbn : ∀ x, bn.contains x = true → mg x = none) :
    ∀ k x i np, gl.lookup x = some (i, np) → ∃ f fd ps, mg x = some (.ref f) ∧ FnOk prog w K mg base (L2.CX prog w) k f fd ps (spF K XR (evF P k) i ps.length) ∧ PySem.W.keepIn K (.ref f) = true ∧ Binds K fd ps [] ∧ ps.length = np := by
  intro k
  induction k with
  | zero =>
    intro x i np hl
    obtain ⟨nm, qual, st, kws, f, fd, N, ps, F, h1, h2, h3, h4, h5, h6, h7, h8, h9, h10⟩ := (hD x i np hl).ex
    refine ⟨f, fd, ps, h5, ⟨spF_len, fun A outer s H args us vs Q E hr he hb hv hs => ?_⟩, h2.kp, h4, h10⟩
    obtain ⟨_, Z, hd, hc, s, xs, _, _, _, _, _, hp⟩ := hs
    exact hp.elim
  | succ k ih =>
    intro x i np hl
    obtain ⟨nm, qual, st, kws, f, fd, N, ps, F, h1, h2, h3, h4, h5, h6, h7, h8, h9, h10⟩ := (hD x i np hl).ex
    refine ⟨f, fd, ps, h5, FunD.ok h2 h3 spF_len fun cdv A outer s H vs Q E hr hsp => ?_, h2.kp, h4, h10⟩
    obtain ⟨hlen, Z, hd, hc, hs, xs, hZ, zh, nzc, hh, rs, hp⟩ := hsp
    let g : Sg := ⟨XR, evF P k, F.ms⟩
    let X := cxOf (L2.CX prog w) prog w K mg base N qual (defScope st) f cdv A outer s H E
    have c : CtxOk ⟨N, gl, gc, bn, F.ms⟩ true (defScope st) g E X := {
      hN := rfl
      nd := h3.nd
      sc := rfl
      calm := rfl
      hu := by have := hr.un; show (A.deeper _).units + 64 < cLine; omega
      ms := rfl
      fn := fun x i np hl => by
        obtain ⟨f', fd', ps', k1, k2, k3, k4, k5⟩ := ih x i np hl
        exact ⟨k, f', fd', ps', k1, k2, hr, k3, k4, k5⟩
      gc := hgc
      bn := hbn
      pass := passes_call (takes_of rfl rfl rfl rfl) (fun _ _ _ _ h => h)
      top := fun _ _ => rfl }
    have j := chkSs_ok c (passes_of rfl) h3.kind F.body (defBody st) h6
    refine ⟨_, j, H, Z, hd, hc, xs.map some ++ List.replicate (F.n - xs.length) none, hs, ?_, ?_⟩
    · have hxl := rs.length
      have hms : ∀ (i : Nat) (x : SV), i ∈ F.ms → (xs.map some ++ List.replicate (F.n - xs.length) none)[i]? = some (some x) → False := fun i x hi hx => by
        have := h9 i hi
        have hil : xs.length ≤ i := by rw [← hxl, hlen, ← h7]; exact this
        rw [List.getElem?_append_right (by simpa using hil), List.getElem?_replicate] at hx
        split at hx <;> cases hx
      have noOwn : ∀ a, ¬ OwnA F.ms (xs.map some ++ List.replicate (F.n - xs.length) none) (L2.start N vs) a := fun a ⟨i, hi, ⟨x, hx⟩, _⟩ => hms i x hi hx
      exact {
        ext := Ext.refl _ _
        tr := hZ
        hand := hh
        nc := ⟨nzc, fun e => nzc (e ▸ zh)⟩
        sh := fun i x hi hx => by
          by_cases hil : i < xs.length
          · rw [List.getElem?_append_left (by simpa using hil), List.getElem?_map] at hx
            cases q : xs[i]? with
            | none => rw [q] at hx; cases hx
            | some y =>
              rw [q] at hx
              cases hx
              obtain ⟨v, hv, r⟩ := rs.get q
              refine ⟨v, ?_, r.less fun a z => ?_⟩
              · unfold L2.start
                rw [List.getElem?_append_left (by simp; omega), List.getElem?_map, hv]
                rfl
              · rcases z with z | z | z
                · exact z
                · exact z ▸ zh
                · exact absurd z (noOwn a)
          · rw [List.getElem?_append_right (by simpa using hil), List.getElem?_replicate] at hx
            split at hx <;> cases hx
        own := fun i x hi hx => (hms i x hi hx).elim
        dis := fun i j x y a hi hj hx => (hms i x hi hx).elim
        len := by unfold L2.start; simp; omega }
    · have e : evF P (k + 1) i xs = M.bnd (evSs (evF P k) F.body (xs.map some ++ List.replicate (F.n - xs.length) none)) endF := by
        show (match P[i]? with
          | none => bad
          | some f => if xs.length = f.np then M.bnd (evSs (evF P k) f.body (xs.map some ++ List.replicate (f.n - xs.length) none)) endF else bad) = _
        rw [h1]
        simp only
        rw [if_pos (by rw [← rs.length, hlen, h7])]
      rw [e] at hp
      exact PostS.of_end zh hp
end Wv

set_option Elab.async false
set_option autoImplicit false
set_option linter.all false
set_option maxRecDepth 100000
set_option maxHeartbeats 4000000
namespace Wv
open PySem PySem.Spec PyProof.Rows L2 PySem.W
/-! ### the law's call -/
theorem walk_ofW {l : PySem.W.OpenLaw} {n k : Nat} {q : Program} {loose : List Str} {XP : (Str → Option Value) → Heap → Prop} {YP : World → Heap → Prop} {d : DefRec} {CX : World → CXT} {x : Str}
    (hn : l.most = some n) (hn2 : n ≤ sizeLine) (hdf : d.params.defaults = []) (hr : Room k callerA)
    (F : ∀ (w : World) (mg : Str → Option Value) (fa : Addr) (h : Heap), YP w h → h.Ns mainGlobals mg → mg d.name = some (.ref fa) →
      ∃ (K : PySem.W.Frag) (fd : FuncData) (sp : Sp), K.In h ∧ (∀ (s : Shared) (u : Value), BindsTo s fd ⟨[u], []⟩ [(x, u)]) ∧
        (∀ (H : Hp) (a : Addr) (ns : List Int), ns.length ≤ n → Only H → SqL K H a (ns.map V.int) → sp [.ref a] H (fun v _ => v = .bl true) fun _ _ _ => False) ∧
        ∀ base : Heap, K.In base → base.Ns mainGlobals mg → FnOk l.prog w K mg base (CX w) k fa fd [x] sp)
    (hCX : ∀ (w : World) (H : Hp) (s : Shared) (e : Value) (s' : Shared), CX w [] H s (fun _ _ _ => False) e s' → False) :
    PySem.W.WalkO q loose XP YP l.row.toRowW d [] (fun f vs => PySem.call f vs) := by
  refine Att.attach_call hn hdf fun w s₀ s₁ mg mb fa o pm cd doc a vs ns G Y ho hd hcd hmg hobj hints hlen hg => ?_
  obtain ⟨K, fd, sp, KX, hb, hsp, hF⟩ := F w mg fa _ Y G.T.g hmg
  exact law_call KX G.T.g G.T.b G.T.builtins G.T.nolimit hg hobj hints (Nat.le_trans hlen hn2) hr hF hb (fun H hO hS => hsp H a ns hlen hO hS) fun H e s' => hCX w H s₁ e s'
theorem cx_none {P : Program} {w : World} {H : Hp} {s s' : Shared} {e : Value} (h : L2.CX P w [] H s (fun _ _ _ => False) e s') : False := by
  obtain ⟨_, _, _, _, _, _, _, _, _, _, _, _, z⟩ := h
  exact z
def spLaw (K : PySem.W.Frag) : Sp := fun vs H Q _ => ∃ (a : Addr) (ns : List Int), vs = [.ref a] ∧ SqL K H a (ns.map V.int) ∧ ns.length ≤ 63 ∧ ∀ H', Q (.bl true) H'
def spHand (K : PySem.W.Frag) (mk : List Int → Hand) : Sp := fun vs H Q _ => ∃ (a : Addr) (ns : List Int), vs = [.ref a] ∧ SqL K H a (ns.map V.int) ∧ ns.length ≤ 63 ∧
  ∀ hd hc H', (∀ b o, H b = some o → H' b = some o) → H hd = none → H hc = none → hc ≠ hd → HandAt H' hd hc (mk ns) → Q (.ref hd) H'
/-! ### the law's hand: [abs(int(cell)) for cell in script[:63]], then a list of the cells and four numbers -/
/-- what stands at the fourth place, by the count of the cells (their list in slot 1) -/
def tMix (K : PySem.W.Frag) (m : Nat → Int) : TE := fun σ H Q => ∃ p zs, σ[1]? = some (some (.ref p)) ∧ H p = some (.lst zs) ∧ Q (.int (m zs.length)) H
def absI (i : Int) : Int := if i < 0 then -i else i
def handOf (m : Nat → Int) (ns : List Int) : Hand := ⟨ns.map absI, 0, 0, m ns.length, 0⟩
section
variable {X : Cx}
theorem pe_mix1 {c : Int} {j : Nat} {y : Str} {p1 p2 p3 p4 p5 : Pos} (hN : X.N[1]? = some y) (hv : Vis X.env.scope y) (hdb : (y == ("__debug__" : Str)) = false) (hcd : (y == ("__classdict__" : Str)) = false) (hg : Gl X "len") (hm : X.mg "len" = none) :
    PE X (.BinOp (.Constant (.int c) j p1) .Add (.Call (.Name "len" p2) [.Name y p3] [] p4) p5) (tMix X.K fun n => c + (n : Int)) := by
  refine pe_imp (pe_op op_add pe_int (pe_callB call_len hg hm boot_len (pa_cons (pe_var hN hv hdb hcd) pa_nil))) fun σ H Q ⟨p, zs, h1, h2, q⟩ => ?_
  exact ⟨_, h1, _, zs.length, rfl, .inl ⟨_, SqL.of h2, rfl⟩, _, _, rfl, rfl, q⟩
theorem pe_mix2 {c d : Int} {j j2 : Nat} {y : Str} {p1 p2 p3 p4 p5 p6 p7 : Pos} (hN : X.N[1]? = some y) (hv : Vis X.env.scope y) (hdb : (y == ("__debug__" : Str)) = false) (hcd : (y == ("__classdict__" : Str)) = false) (hg : Gl X "len") (hm : X.mg "len" = none) (hd : -(2 ^ 64) < d ∧ d < 2 ^ 64) :
    PE X (.BinOp (.Constant (.int c) j p1) .Add (.BinOp (.Constant (.int d) j2 p6) .Mult (.Call (.Name "len" p2) [.Name y p3] [] p4) p7) p5) (tMix X.K fun n => c + d * (n : Int)) := by
  refine pe_imp (pe_op op_add pe_int (pe_op op_mul pe_int (pe_callB call_len hg hm boot_len (pa_cons (pe_var hN hv hdb hcd) pa_nil)))) fun σ H Q ⟨p, zs, h1, h2, q⟩ => ?_
  exact ⟨_, h1, _, zs.length, rfl, .inl ⟨_, SqL.of h2, rfl⟩, _, _, rfl, rfl, .inl hd, _, _, rfl, rfl, q⟩
end
section
variable {P : Program} {w : World} {K : PySem.W.Frag} {mg : Str → Option Value} {base : Heap} {pa : Arguments} {sc scope : Scope} {kws : List (Str × V)} {f : Addr} {fd : FuncData}
theorem cut63 (ns : List Int) (h : ns.length ≤ 63) : cutV (ns.map V.int) none (some 63) = ns.map V.int := by
  unfold cutV
  have e1 : HT.sIx (ns.map V.int).length 0 none = 0 := rfl
  have e2 : HT.sIx (ns.map V.int).length (ns.map V.int).length (some 63) = (ns.map V.int).length := by
    unfold HT.sIx
    rw [List.length_map]
    simp
    omega
  rw [e1, e2, List.drop_zero, Nat.sub_zero, List.take_length]
def nScript : Str := "script"
def nCells : Str := "cells"
def nCell : Str := "cell"
def nHand : Str := "hand"
theorem ok_hand {k : Nat} {m : Nat → Int} {e : Expr} {j1 j2 j3 j4 : Nat} {p1 p2 p3 p4 p5 p6 p7 p8 p9 p10 p11 p12 p13 p14 p15 p16 p17 p18 p19 : Pos}
    (F : FunD K "_law_hand" "_law_hand" pa [.Assign [.Name nCells p1] (.ListComp (.Call (.Name "abs" p2) [.Call (.Name "int" p3) [.Name nCell p4] [] p5] [] p6) [⟨.Name nCell p7, .Subscript (.Name nScript p8) (.Slice none (some (.Constant (.int 63) j1 p9)) none p10) p11, [], 0⟩] scope p12) p13,
      .Return (some (.List [.Name nCells p14, .Constant (.int 0) j2 p15, .Constant (.int 0) j3 p16, e, .Constant (.int 0) j4 p17] p18)) p19] sc [] kws f fd)
    (S : FnScope [nScript, nCells, nCell] [nScript] sc) (hv : visB sc nScript = true) (hcs : sc.names.lookup nCells = some .local) (hb : blkB ⟨[nScript, nCells, nCell], [], [], [], []⟩ sc scope [2] = true)
    (ha : glB (relS scope sc) "abs" = true) (hi : glB (relS scope sc) "int" = true) (hc : (relS scope sc).names.lookup nCell = some .local) (hcv : visB (relS scope sc) nCell = true) (hs : isStar e = false) (ga : mg "abs" = none) (gi : mg "int" = none)
    (hcv1 : visB sc nCells = true) (he : ∀ X : Cx, X.mg = mg → X.K = K → X.N = [nScript, nCells, nCell] → X.env.scope = sc → PE X e (tMix X.K m)) : FnOk P w K mg base (L2.CX P w) (k + 1) f fd [nScript] (spHand K (handOf m)) := by
  refine FunD.ok F S (fun vs H Q E h => ?_) (fun cdv A outer s H vs Q E hr h => ?_)
  · obtain ⟨a, ns, rfl, _⟩ := h; rfl
  · obtain ⟨a, ns, rfl, hS, hl, q⟩ := h
    generalize hX : cxOf (L2.CX P w) P w K mg base [nScript, nCells, nCell] "_law_hand" sc f cdv A outer s H E = X
    have c : CtxOk ⟨[nScript, nCells, nCell], [], [], [], []⟩ true sc ⟨fun _ _ _ _ _ => False, fun _ _ => bad, []⟩ E0 X := by
      subst hX
      exact {
        hN := rfl
        nd := S.nd
        sc := rfl
        calm := rfl
        hu := by have := hr.un; show (A.deeper _).units + 64 < cLine; omega
        ms := rfl
        fn := fun x i np h => by cases h
        gc := fun x d h => by cases h
        bn := fun x h => by cases h
        pass := L2.passL
        top := fun _ _ => rfl }
    have nd : X.N.Nodup := by rw [c.hN]; exact c.nd
    have hmg : X.mg = mg := by subst hX; rfl
    have hK : X.K = K := by subst hX; rfl
    have vScript := vis_ok c hv
    have vCells := vis_ok c hcv1
    have ok := blk_ok hb
    have n0 : X.N[0]? = some nScript := by rw [c.hN]; rfl
    have n1 : X.N[1]? = some nCells := by rw [c.hN]; rfl
    have n2 : X.N[2]? = some nCell := by rw [c.hN]; rfl
    have hloc : Loc X.env.scope nCells := by rw [c.sc]; exact .inl hcs
    have hit : PI X (.Name nCell p7) (.Subscript (.Name nScript p8) (.Slice none (some (.Constant (.int 63) j1 p9)) none p10) p11) (iList X.K (tSl (rSlL X.K) (tVar 0) tNoPart (tPart (tC (.int 63))))) :=
      pi_list (pe_slice sl_list (pe_var n0 vScript.1 vScript.2.1 vScript.2.2) po_none (po_some pe_int))
    rw [← c.hN, ← c.sc] at ok
    have hgg : ∀ (s : Shared) (H : Hp) (a : Addr) (cl : List (Str × Addr)) (fp : List Addr), PG (X.blk s H scope (compEnvC scope cl a X.env) fp) (.Name nCell p7) (gName 2) := fun s H a cl fp => by
      have c' := c.blk s H scope a cl fp
      exact pg_name nd n2 (.inl (by rw [c'.sc]; exact hc)) (.inr (by rw [c'.sc]; exact hc))
    have hee : ∀ (s : Shared) (H : Hp) (a : Addr) (cl : List (Str × Addr)) (fp : List Addr), PE (X.blk s H scope (compEnvC scope cl a X.env) fp) (.Call (.Name "abs" p2) [.Call (.Name "int" p3) [.Name nCell p4] [] p5] [] p6)
        (tCB (rDs X.K bAbs) (tCons (tCB (rDs X.K bInt) (tCons (tVar 2) tNil)) tNil)) := fun s H a cl fp => by
      have c' := c.blk s H scope a cl fp
      have v := vis_ok c' hcv
      exact pe_callB cb_abs (gl_ok c' ha).1 (by show X.mg _ = none; rw [hmg]; exact ga) (boot_bi .abs) (pa_cons (pe_callTy cb_int (gl_ok c' hi).1 (by show X.mg _ = none; rw [hmg]; exact gi) (boot_bi .int) (pa_cons (pe_var n2 v.1 v.2.1 v.2.2) pa_nil)) pa_nil)
    have st1 : ∃ te, PS X (.Assign [.Name nCells p1] (.ListComp (.Call (.Name "abs" p2) [.Call (.Name "int" p3) [.Name nCell p4] [] p5] [] p6) [⟨.Name nCell p7, .Subscript (.Name nScript p8) (.Slice none (some (.Constant (.int 63) j1 p9)) none p10) p11, [], 0⟩] scope p12) p13) (tAsg te (gName 1)) ∧
        te = tLc (iList X.K (tSl (rSlL X.K) (tVar 0) tNoPart (tPart (tC (.int 63))))) (gName 2) tYes (tCB (rDs X.K bAbs) (tCons (tCB (rDs X.K bInt) (tCons (tVar 2) tNil)) tNil)) [2] := by
      obtain ⟨b, hb1, hb2⟩ := swc (elt := .Call (.Name "abs" p2) [.Call (.Name "int" p3) [.Name nCell p4] [] p5] [] p6) (gs := [⟨.Name nCell p7, .Subscript (.Name nScript p8) (.Slice none (some (.Constant (.int 63) j1 p9)) none p10) p11, [], 0⟩]) (scope := scope) (p := p12) (py := p1) (y := nCells) (l := p13.line) (env := X.env)
      cases b with
      | true => exact ⟨_, ps_setLc c.calm nd n1 (hb2 rfl) hb1 hit ok hgg (fun _ _ _ _ _ => pts_nil) hee (fun _ => rfl), rfl⟩
      | false => exact ⟨_, ps_set nd n1 hloc (pe_lc c.calm nd hit ok hgg (fun _ _ _ _ _ => pts_nil) hee (fun _ => rfl)) hb1 (.inl (c.top rfl _)), rfl⟩
    obtain ⟨te, ps1, rfl⟩ := st1
    have ps2 : PS X (.Return (some (.List [.Name nCells p14, .Constant (.int 0) j2 p15, .Constant (.int 0) j3 p16, e, .Constant (.int 0) j4 p17] p18)) p19) (tRet (tLst (tCons (tVar 1) (tCons (tC (.int 0)) (tCons (tC (.int 0)) (tCons (tMix X.K m) (tCons (tC (.int 0)) tNil))))))) :=
by
      have a1 : PA X [.Constant (.int 0) j4 p17] (tCons (tC (.int 0)) tNil) := pa_cons pe_int pa_nil
      have a2 : PA X [e, .Constant (.int 0) j4 p17] (tCons (tMix X.K m) (tCons (tC (.int 0)) tNil)) := pa_cons (he X hmg hK c.hN c.sc) a1 (star_eq hs _ _)
      have a3 : PA X [.Constant (.int 0) j3 p16, e, .Constant (.int 0) j4 p17] (tCons (tC (.int 0)) (tCons (tMix X.K m) (tCons (tC (.int 0)) tNil))) := pa_cons pe_int a2
      have a4 : PA X [.Constant (.int 0) j2 p15, .Constant (.int 0) j3 p16, e, .Constant (.int 0) j4 p17] (tCons (tC (.int 0)) (tCons (tC (.int 0)) (tCons (tMix X.K m) (tCons (tC (.int 0)) tNil)))) := pa_cons pe_int a3
      exact ps_ret (pe_lst (pa_cons (pe_var n1 vCells.1 vCells.2.1 vCells.2.2) a4))
    refine ⟨_, pss_cons ps1 (pss_one ps2), ?_⟩
    rw [← hK] at hS
    refine ⟨_, rfl, 63, rfl, a, _, rfl, hS, fun p hp => ⟨p, rfl, ⟨_, SqL.of upd_same⟩, fun D hD => ?_⟩⟩
    rw [cut63 ns hl] at hD ⊢
    refine lc_list (K := X.K) (a := p) (xs := ns.map V.int) (fun i H' => (∀ b o, (upd H p (.lst (ns.map V.int))) b = some o → H' b = some o) ∧ H' D = some (.lst (((ns.take i).map absI).map V.int))) ⟨fun b o e => by rw [upd_ne]; exact e; exact ne_of_none e hD, by rw [upd_same]; rfl⟩ (fun i H' _ h => SqL.of (h.1 _ _ upd_same)) ?_ ?_
    · rintro i x H' hx ⟨k1, k2⟩
      rw [List.getElem?_map] at hx
      obtain ⟨n, hn, rfl⟩ := Option.map_eq_some_iff.mp hx
      refine ⟨rfl, ?_⟩
      unfold tYes
      simp only [if_true]
      refine ⟨.int n, rfl, fun _ => False, [.int n], .int n, .cons (.int n) .nil, rfl, fun _ z => z.elim, fun v H2 kp r => ?_⟩
      cases r
      refine ⟨fun _ => False, [.int n], .int (absI n), .cons (.int n) .nil, rfl, fun _ z => z.elim, fun v H3 kp3 r => ?_⟩
      cases r
      have hlt : i < ns.length := (List.getElem?_eq_some_iff.mp hn).1
      have hsz : (((ns.take i).map absI).map V.int).length < sizeLine := by
        rw [List.length_map, List.length_map, List.length_take]
        have : (63 : Nat) < sizeLine := by decide
        omega
      refine ⟨_, kp3 _ _ (kp _ _ k2), hsz, fun b o e => ?_, ?_⟩
      · have e2 := kp3 _ _ (kp _ _ (k1 b o e))
        rw [upd_ne]
        · exact e2
        · intro z
          rw [z, hD] at e
          cases e
      · rw [upd_same]
        congr 2
        rw [List.take_add_one, hn]
        simp
    · rintro H2 ⟨k1, k2⟩
      have k2 : H2 D = some (.lst ((ns.map absI).map V.int)) := by
        rw [k2]; congr 2; rw [List.length_map, List.take_length]
      refine ⟨_, rfl, D, _, rfl, k2, ?_⟩
      refine ⟨by show 5 ≤ sizeLine; decide, fun hd h0 => ?_⟩
      have pD : p ≠ D := fun e => by rw [← e, upd_same] at hD; cases hD
      have hD0 : H D = none := by
        cases z : H D with
        | none => rfl
        | some o =>
          rw [upd_ne (Ne.symm pD)] at hD
          rw [z] at hD; cases hD
      have dD : hd ≠ D := fun e => by rw [e, k2] at h0; cases h0
      have up : ∀ b o, H b = some o → H2 b = some o := fun b o e => k1 b o (by rw [upd_ne (ne_of_none e hp)]; exact e)
      have hlen : (((ns.map absI).map V.int).length : Nat) = ns.length := by simp
      refine q hd D _ (fun b o e => ?_) ?_ hD0 dD.symm ⟨?_, ?_, ?_⟩
      · rw [upd_ne (ne_of_none (up b o e) h0)]
        exact up b o e
      · cases z : H hd with
        | none => rfl
        | some o => rw [up hd o z] at h0; cases h0
      · rw [upd_same, hlen]
        rfl
      · rw [upd_ne dD.symm]
        exact k2
      · show (ns.map absI).length ≤ sizeLine
        rw [List.length_map]
        have : (63 : Nat) < sizeLine := by decide
        omega
theorem ok_law {k : Nat} {m : List Int → Hand} {XR : XRep} {PP : List Fn} {gl : List (Str × (Nat × Nat))} {gc : List (Str × PyData)} {bn : List Str} {N more : List Str} {body rest : List Stmt} {lawB : List St} {fH : Addr} {fdH : FuncData} {p1 p2 p3 p4 p5 : Pos}
    (F : FunD K "law" "law" pa body sc [] kws f fd) (S : FnScope N [nScript] sc) (hN : N = nScript :: nHand :: more) (hbody : body = .Assign [.Name nHand p1] (.Call (.Name "_law_hand" p2) [.Name nScript p3] [] p4) p5 :: rest)
    (chk : chkSs ⟨N, gl, gc, bn, []⟩ sc lawB rest = true) (hv : visB sc nScript = true) (hst : stoB ⟨N, gl, gc, bn, []⟩ true sc 1 nHand = true) (hg : glB sc "_law_hand" = true) (hk : 1 ≤ k)
    (FH : FnOk P w K mg base (L2.CX P w) 1 fH fdH [nScript] (spHand K m)) (kpH : PySem.W.keepIn K (.ref fH) = true) (bH : Binds K fdH [nScript] []) (gH : mg "_law_hand" = some (.ref fH))
    (ih : ∀ x i np, gl.lookup x = some (i, np) → ∃ f fd ps, mg x = some (.ref f) ∧ FnOk P w K mg base (L2.CX P w) k f fd ps (spF K XR (evF PP k) i ps.length) ∧ PySem.W.keepIn K (.ref f) = true ∧ Binds K fd ps [] ∧ ps.length = np)
    (hgc : ∀ x d, gc.lookup x = some d → ∃ v u, mg x = some u ∧ RelV v u ∧ ∀ H Z, Rep K H Z v d) (hbn : ∀ x, bn.contains x = true → mg x = none)
    (math : ∀ ns : List Int, ns.length ≤ 63 → ∃ s', evSs (evF PP k) lawB (none :: some .hand :: List.replicate more.length none) (m ns) = .ok (.rt (.d (.bool true))) s') : FnOk P w K mg base (L2.CX P w) (k + 1) f fd [nScript] (spLaw K) := by
  subst hN
  subst hbody
  refine FunD.ok F S (fun vs H Q E h => ?_) (fun cdv A outer s H vs Q E hr h => ?_)
  · obtain ⟨a, ns, rfl, _⟩ := h; rfl
  · obtain ⟨a, ns, rfl, hS, hl, q⟩ := h
    generalize hX : cxOf (L2.CX P w) P w K mg base (nScript :: nHand :: more) "law" sc f cdv A outer s H E = X
    have hK : X.K = K := by subst hX; rfl
    let g : Sg := ⟨XR, evF PP k, []⟩
    have c : CtxOk ⟨nScript :: nHand :: more, gl, gc, bn, []⟩ true sc g E0 X := by
      subst hX
      exact {
        hN := rfl
        nd := S.nd
        sc := rfl
        calm := rfl
        hu := by have := hr.un; show (A.deeper _).units + 64 < cLine; omega
        ms := rfl
        fn := fun x i np hl => by
          obtain ⟨f', fd', ps', k1, k2, k3, k4, k5⟩ := ih x i np hl
          exact ⟨k, f', fd', ps', k1, k2, hr, k3, k4, k5⟩
        gc := hgc
        bn := hbn
        pass := L2.passL
        top := fun _ _ => rfl }
    have hp : PassesOwn (model X.prog X.w) X.A X.env X.xe := by subst hX; exact passes_of rfl
    have hkind : X.env.scope.kind = .function := by rw [c.sc]; exact S.kind
    have vS := vis_ok c hv
    have sto := sto_ok c hst
    have hr1 : Room 1 X.A := by subst hX; exact hr.mono hk
    have FH' : FnOk X.prog X.w X.K X.mg X.base (L2.CX X.prog X.w) 1 fH fdH [nScript] (spHand X.K m) := by subst hX; exact FH
    have ps1 : PS X (.Assign [.Name nHand p1] (.Call (.Name "_law_hand" p2) [.Name nScript p3] [] p4) p5) (tAsg (tCall (spHand X.K m) [] E0 (tCons (tVar 0) tNil)) (gName 1)) :=
      ps_set (by rw [c.hN]; exact c.nd) sto.1 sto.2 (pe_call FH' hr1 (gl_ok c hg).1 (by subst hX; exact gH) (by rw [hK]; exact kpH) (by rw [hK]; exact bH) .nil L2.passL (pa_cons (pe_var (by rw [c.hN]; rfl) vS.1 vS.2.1 vS.2.2) pa_nil)) (sw_no rfl _ _ _) (fn_top c nHand)
    refine ⟨_, pss_cons ps1 (chkSs_ok c hp hkind lawB rest chk), ?_⟩
    rw [← hK] at hS
    refine ⟨_, rfl, a, ns, rfl, hS, hl, fun hd hc H' _ n1 n2 hcd hh => ?_⟩
    obtain ⟨s', hs'⟩ := math ns hl
    refine ⟨H', fun b => b = hd, hd, hc, none :: some .hand :: List.replicate more.length none, m ns, ?_, ?_⟩
    · have ms0 : ∀ {i : Nat}, i ∈ ([] : List Nat) → False := fun h => by cases h
      exact {
        ext := Ext.refl _ _
        tr := fun b hb => by rw [hb, hh.at_]; exact fun z => nomatch z
        hand := hh
        nc := ⟨hcd, hcd⟩
        sh := fun i x _ hx => by
          match i, hx with
          | 0, hx => simp at hx
          | 1, hx =>
            simp at hx
            subst hx
            exact ⟨.ref hd, rfl, rfl⟩
          | i + 2, hx =>
            rw [List.getElem?_cons_succ, List.getElem?_cons_succ, List.getElem?_replicate] at hx
            split at hx <;> cases hx
        own := fun i x hi _ => (ms0 hi).elim
        dis := fun i j x y a hi _ => (ms0 hi).elim
        len := by unfold L2.start; simp }
    · show PostS g.XR E0 X.K H' _ hd hc g.ms _ (evSs (evF PP k) lawB _ (m ns))
      rw [hs']
      intro v H2 _ _ r
      have r : Rep X.K H2 _ v (.bool true) := r
      cases r
      exact q H2
end
end Wv

set_option Elab.async false
set_option autoImplicit false
set_option linter.all false
set_option maxRecDepth 100000
set_option maxHeartbeats 4000000
namespace Wv
open PySem PySem.Spec PyProof.Rows
theorem int_fact {K : PySem.W.Frag} {h : Heap} {mg : Str → Option Value} (X : K.In h) (G : h.Ns mainGlobals mg) {x : Str} {i : Int} (c : (He.Fa.int x i).ok K = true) : ∃ v u, mg x = some u ∧ L2.RelV v u ∧ ∀ H Z, Rep K H Z v (.int i) := by
  obtain ⟨t, e⟩ := He.int_ok X G c
  exact ⟨.int i, _, e, ⟨t, rfl⟩, fun _ _ => .int i⟩
theorem lookup_in {α : Type} {l : List (Str × α)} {x : Str} {v : α} (h : l.lookup x = some v) : (x, v) ∈ l := by
  induction l with
  | nil => cases h
  | cons p l ih =>
    obtain ⟨k, u⟩ := p
    rw [List.lookup_cons] at h
    cases hb : x == k with
    | true =>
      rw [hb] at h
      cases h
      have : x = k := by simpa using hb
      rw [this]
      exact List.mem_cons_self
    | false =>
      rw [hb] at h
      exact List.mem_cons_of_mem _ (ih h)
end Wv

set_option Elab.async false
set_option autoImplicit false
set_option linter.all false
set_option maxRecDepth 100000
set_option maxHeartbeats 4000000
/-! the meaning, in steps that simp takes -/
namespace Wv
open PySem PySem.W
def getS : Env → Nat → M SV
  | some x :: _, 0 => M.ret x
  | _ :: r, n + 1 => getS r n
  | _, _ => bad
theorem getS_eq : ∀ (ρ : Env) (i : Nat), (match ρ[i]? with | some (some x) => M.ret x | _ => bad : M SV) = getS ρ i
  | [], 0 => rfl
  | [], _ + 1 => rfl
  | some x :: _, 0 => rfl
  | none :: _, 0 => rfl
  | some x :: r, n + 1 => by simpa [getS] using getS_eq r n
  | none :: r, n + 1 => by simpa [getS] using getS_eq r n
@[simp] theorem getS_zero (x : SV) (r : Env) : getS (some x :: r) 0 = M.ret x := id rfl
@[simp] theorem getS_succ (o : Option SV) (r : Env) (n : Nat) : getS (o :: r) (n + 1) = getS r n := by cases o <;> rfl
section
variable (call : Nat → List SV → M SV) (ρ : Env)
@[simp] theorem ev_v (i : Nat) : evE call (.v i) ρ = getS ρ i := getS_eq ρ i
@[simp] theorem ev_c (d : PyData) : evE call (.c d) ρ = M.ret (.d d) := id rfl
@[simp] theorem ev_g (d : PyData) : evE call (.g d) ρ = M.ret (.d d) := id rfl
@[simp] theorem ev_bin (o : Bop) (a b : Ex) : evE call (.bin o a b) ρ = M.bnd (toD (evE call a ρ)) fun x => M.bnd (toD (evE call b ρ)) fun y => retD (binop o x y) := id rfl
@[simp] theorem ev_cmp (o : Cop) (a b : Ex) : evE call (.cmp o a b) ρ = M.bnd (toD (evE call a ρ)) fun x => M.bnd (toD (evE call b ρ)) fun y => retB (cmpop o x y) := id rfl
@[simp] theorem ev_chain (o p : Cop) (a b c : Ex) : evE call (.chain o p a b c) ρ = M.bnd (toD (evE call a ρ)) fun x => M.bnd (toD (evE call b ρ)) fun y => M.bnd (lift (cmpop o x y)) fun t =>
      if t then M.bnd (toD (evE call c ρ)) fun z => retB (cmpop p y z) else M.ret (.d (.bool false)) := id rfl
@[simp] theorem ev_and (a b : Ex) : evE call (.and a b) ρ = M.bnd (evE call a ρ) fun x => M.bnd (tru x) fun t => if t then evE call b ρ else M.ret x := id rfl
@[simp] theorem ev_or (a b : Ex) : evE call (.or a b) ρ = M.bnd (evE call a ρ) fun x => M.bnd (tru x) fun t => if t then M.ret x else evE call b ρ := id rfl
@[simp] theorem ev_not (a : Ex) : evE call (.not a) ρ = M.bnd (evE call a ρ) fun x => M.bnd (tru x) fun t => M.ret (.d (.bool (!t))) := id rfl
@[simp] theorem ev_ite (c a b : Ex) : evE call (.ite c a b) ρ = M.bnd (evE call c ρ) fun x => M.bnd (tru x) fun t => if t then evE call a ρ else evE call b ρ := id rfl
@[simp] theorem ev_tup (es : List Ex) : evE call (.tup es) ρ = M.bnd (evDs call es ρ) fun ds => M.ret (.d (.tuple ds)) := id rfl
@[simp] theorem ev_lst (es : List Ex) : evE call (.lst es) ρ = M.bnd (evDs call es ρ) fun ds => M.ret (.d (.list ds)) := id rfl
def idxM : SV → PyData → M SV
  | .d p, y => retD (idxop p y)
  | .hand, y => getHand y
@[simp] theorem idxM_d (p y : PyData) : idxM (.d p) y = retD (idxop p y) := id rfl
@[simp] theorem idxM_h (y : PyData) : idxM .hand y = getHand y := id rfl
@[simp] theorem ev_idx (a i : Ex) : evE call (.idx a i) ρ = M.bnd (evE call a ρ) fun x => M.bnd (toD (evE call i ρ)) fun y => idxM x y := by
  first | rfl | (simp only [evE]; congr 1; funext x; congr 1; funext y; cases x <;> rfl)
@[simp] theorem ev_slice (a : Ex) (lo hi : Option Ex) : evE call (.slice a lo hi) ρ = M.bnd (toD (evE call a ρ)) fun x => M.bnd (evO call lo ρ) fun l => M.bnd (evO call hi ρ) fun h => retD (sliceop x l h) := id rfl
@[simp] theorem ev_call (f : Nat) (es : List Ex) : evE call (.call f es) ρ = M.bnd (evEs call es ρ) fun xs => call f xs := id rfl
@[simp] theorem ev_bi (b : Bi) (es : List Ex) : evE call (.bi b es) ρ = M.bnd (evDs call es ρ) fun ds => retD (biop b ds) := id rfl
@[simp] theorem ev_lrange (es : List Ex) : evE call (.lrange es) ρ = M.bnd (evDs call es ρ) fun ds => M.bnd (lift (rangeD ds)) fun xs => M.ret (.d (.list xs)) := id rfl
@[simp] theorem ev_isi (a : Ex) (t : Ty) : evE call (.isi a t) ρ = M.bnd (toD (evE call a ρ)) fun x => M.ret (.d (.bool (isTy t x))) := id rfl
@[simp] theorem ev_comp (tg : Tgt) (own : List Nat) (it : It) (cd : Option Ex) (e : Ex) : evE call (.comp tg own it cd e) ρ = M.bnd (evI call it ρ) fun xs => M.bnd (compL (fun y => noEx (turnM call tg own cd e ρ y)) xs) fun ys => M.ret (.d (.list ys)) := id rfl
@[simp] theorem ev_comp2 (tg : Tgt) (own : List Nat) (it : It) (cd : Option Ex) (tg1 : Tgt) (own1 : List Nat) (it1 : It) (cd1 : Option Ex) (e : Ex) : evE call (.comp2 tg own it cd tg1 own1 it1 cd1 e) ρ =
    M.bnd (evI call it ρ) fun xs => M.bnd (compF (fun y => noEx (turnF call tg own cd tg1 own1 it1 cd1 e ρ y)) xs) fun ys => if ys.length ≤ sizeLine then M.ret (.d (.list ys)) else bad := id rfl
@[simp] theorem ec_none : evC call none ρ = M.ret true := id rfl
@[simp] theorem ec_some (c : Ex) : evC call (some c) ρ = M.bnd (evE call c ρ) tru := id rfl
def intM : PyData → M (Option Int)
  | .int i => M.ret (some i)
  | _ => bad
@[simp] theorem intM_int (i : Int) : intM (.int i) = M.ret (some i) := id rfl
@[simp] theorem eo_none : evO call none ρ = M.ret none := id rfl
@[simp] theorem eo_some (e : Ex) : evO call (some e) ρ = M.bnd (toD (evE call e ρ)) intM := by
  first | rfl | (simp only [evO]; congr 1; funext x; cases x <;> rfl)
@[simp] theorem es_nil : evEs call [] ρ = M.ret [] := id rfl
@[simp] theorem es_cons (e : Ex) (es : List Ex) : evEs call (e :: es) ρ = M.bnd (evE call e ρ) fun x => M.bnd (evEs call es ρ) fun xs => M.ret (x :: xs) := id rfl
@[simp] theorem ed_nil : evDs call [] ρ = M.ret [] := id rfl
@[simp] theorem ed_cons (e : Ex) (es : List Ex) : evDs call (e :: es) ρ = M.bnd (toD (evE call e ρ)) fun x => M.bnd (evDs call es ρ) fun xs => M.ret (x :: xs) := id rfl
@[simp] theorem ei_ex (e : Ex) : evI call (.ex e) ρ = M.bnd (toD (evE call e ρ)) fun x => lift (seqD x) := id rfl
@[simp] theorem ei_range (es : List Ex) : evI call (.range es) ρ = M.bnd (evDs call es ρ) fun ds => lift (rangeD ds) := id rfl
@[simp] theorem ei_enum (e : Ex) : evI call (.enum e) ρ = M.bnd (toD (evE call e ρ)) fun x => lift (enumD x) := id rfl
@[simp] theorem ei_zip (a b : Ex) : evI call (.zip a b) ρ = M.bnd (toD (evE call a ρ)) fun x => M.bnd (toD (evE call b ρ)) fun y => lift (zipD x y) := id rfl
/-! statements -/
@[simp] theorem st_set (fl : Bool) (i : Nat) (e : Ex) : evS call (.set fl i e) ρ = M.bnd (evE call e ρ) fun x => if flatOk fl x then M.ret (.nx (setSlot ρ i x)) else bad := id rfl
@[simp] theorem st_setL (i : Nat) (e : Ex) : evS call (.setL i e) ρ = M.bnd (evE call e ρ) fun x => M.bnd (listOf x) fun ds => M.ret (.nx (setSlot ρ i (.d (.list ds)))) := id rfl
@[simp] theorem st_move (i j : Nat) : evS call (.move i j) ρ = M.bnd (slotL ρ j) fun ds => M.ret (.nx ((setSlot ρ i (.d (.list ds))).set j none)) := id rfl
@[simp] theorem st_par (is : List Nat) (es : List Ex) : evS call (.par is es) ρ = M.bnd (evEs call es ρ) fun xs => if xs.length = is.length then M.ret (.nx (setSs ρ is xs)) else bad := id rfl
@[simp] theorem st_unp (fl : Bool) (tg : Tgt) (e : Ex) : evS call (.unp fl tg e) ρ = M.bnd (toD (evE call e ρ)) fun x => if flatOk fl (.d x) then M.bnd (lift (bindT tg x ρ)) fun ρ' => M.ret (.nx ρ') else bad := id rfl
@[simp] theorem st_app (fl : Bool) (i : Nat) (e : Ex) : evS call (.app fl i e) ρ = M.bnd (slotL ρ i) fun ds => M.bnd (toD (evE call e ρ)) fun y =>
      if flatOk fl (.d y) && decide (ds.length < sizeLine) then M.ret (.nx (setSlot ρ i (.d (.list (ds ++ [y]))))) else bad := id rfl
def extM (fl : Bool) (i : Nat) (ρ : Env) (ds : List PyData) : PyData → M Fl
  | .list zs => if flatOk fl (.d (.tuple zs)) && decide (ds.length + zs.length ≤ sizeLine) then M.ret (.nx (setSlot ρ i (.d (.list (ds ++ zs))))) else bad
  | _ => bad
@[simp] theorem extM_list (fl : Bool) (i : Nat) (ds zs : List PyData) : extM fl i ρ ds (.list zs) = if flatOk fl (.d (.tuple zs)) && decide (ds.length + zs.length ≤ sizeLine) then M.ret (.nx (setSlot ρ i (.d (.list (ds ++ zs))))) else bad := id rfl
@[simp] theorem st_ext (fl : Bool) (i : Nat) (e : Ex) : evS call (.ext fl i e) ρ = M.bnd (slotL ρ i) fun ds => M.bnd (toD (evE call e ρ)) fun y => extM fl i ρ ds y := by
  first | rfl | (simp only [evS]; congr 1; funext ds; congr 1; funext y; cases y <;> rfl)
@[simp] theorem st_seti (fl : Bool) (i : Nat) (k e : Ex) : evS call (.seti fl i k e) ρ = M.bnd (toD (evE call e ρ)) fun y => if flatOk fl (.d y) then M.bnd (slotL ρ i) fun ds => M.bnd (toD (evE call k ρ)) fun k => setiM i k y ds ρ else bad := id rfl
@[simp] theorem st_setH (i : Nat) (k e : Ex) : evS call (.setH i k e) ρ = M.bnd (toD (evE call e ρ)) fun y => M.bnd (slotH ρ i) fun _ => M.bnd (toD (evE call k ρ)) fun k => hset k y ρ := id rfl
def augM (call : Nat → List SV → M SV) (i : Nat) (o : Bop) (e : Ex) (ρ : Env) (ds : List PyData) : PyData → M Fl
  | .int k => M.bnd (lift (idxN ds k)) fun x => M.bnd (toD (evE call e ρ)) fun y => M.bnd (lift (augop o x y)) fun z => M.bnd (lift (setIdx ds k z)) fun ds' => M.ret (.nx (setSlot ρ i (.d (.list ds'))))
  | _ => bad
@[simp] theorem augM_int (i : Nat) (o : Bop) (e : Ex) (ds : List PyData) (k : Int) : augM call i o e ρ ds (.int k) = M.bnd (lift (idxN ds k)) fun x => M.bnd (toD (evE call e ρ)) fun y => M.bnd (lift (augop o x y)) fun z => M.bnd (lift (setIdx ds k z)) fun ds' => M.ret (.nx (setSlot ρ i (.d (.list ds')))) := id rfl
@[simp] theorem st_augi (i : Nat) (k : Ex) (o : Bop) (e : Ex) : evS call (.augi i k o e) ρ = M.bnd (slotL ρ i) fun ds => M.bnd (toD (evE call k ρ)) fun k => augM call i o e ρ ds k := by
  first | rfl | (simp only [evS]; congr 1; funext ds; congr 1; funext y; cases y <;> rfl)
@[simp] theorem st_aug (i : Nat) (o : Bop) (e : Ex) : evS call (.aug i o e) ρ = M.bnd (slotD ρ i) fun x => M.bnd (toD (evE call e ρ)) fun y => M.bnd (lift (augop o x y)) fun z => M.ret (.nx (setSlot ρ i (.d z))) := id rfl
@[simp] theorem st_ite (c : Ex) (a b : List St) : evS call (.ite c a b) ρ = M.bnd (evE call c ρ) fun x => M.bnd (tru x) fun t => if t then evSs call a ρ else evSs call b ρ := id rfl
@[simp] theorem st_for (tg : Tgt) (it : It) (body : List St) : evS call (.for_ tg it body) ρ = M.bnd (evI call it ρ) fun xs => forL tg (evSs call body) xs ρ := id rfl
@[simp] theorem st_whl (c : Ex) (body : List St) : evS call (.whl c body) ρ = whlL (fun ρ => M.bnd (evE call c ρ) tru) (evSs call body) whlFuel ρ := id rfl
@[simp] theorem st_ret (e : Ex) : evS call (.ret e) ρ = M.bnd (evE call e ρ) fun x => M.ret (.rt x) := id rfl
@[simp] theorem st_brk : evS call .brk ρ = M.ret (.bk ρ) := id rfl
@[simp] theorem st_cont : evS call .cont ρ = M.ret (.ct ρ) := id rfl
@[simp] theorem st_pass : evS call .pass ρ = M.ret (.nx ρ) := id rfl
@[simp] theorem st_drop (e : Ex) : evS call (.drop e) ρ = M.bnd (evE call e ρ) fun _ => M.ret (.nx ρ) := id rfl
@[simp] theorem ss_nil : evSs call [] ρ = M.ret (.nx ρ) := id rfl
def thenM (call : Nat → List SV → M SV) (r : List St) : Fl → M Fl
  | .nx ρ' => evSs call r ρ'
  | f => M.ret f
@[simp] theorem thenM_nx (r : List St) : thenM call r (.nx ρ) = evSs call r ρ := id rfl
@[simp] theorem thenM_rt (r : List St) (v : SV) : thenM call r (.rt v) = M.ret (.rt v) := id rfl
@[simp] theorem thenM_bk (r : List St) : thenM call r (.bk ρ) = M.ret (.bk ρ) := id rfl
@[simp] theorem thenM_ct (r : List St) : thenM call r (.ct ρ) = M.ret (.ct ρ) := id rfl
@[simp] theorem ss_cons (st : St) (r : List St) : evSs call (st :: r) ρ = M.bnd (evS call st ρ) (thenM call r) := by
  first | rfl | (simp only [evSs]; congr 1; funext f; cases f <;> rfl)
@[simp] theorem toD_ret (p : PyData) : toD (M.ret (.d p)) = M.ret p := id rfl
@[simp] theorem toD_bnd {α : Type} (m : M α) (k : α → M SV) : toD (M.bnd m k) = M.bnd m fun a => toD (k a) := bnd_assoc m k asD
@[simp] theorem toD_ite (c : Prop) [Decidable c] (a b : M SV) : toD (if c then a else b) = if c then toD a else toD b := by split <;> rfl
@[simp] theorem retD_some (d : PyData) : retD (some d) = M.ret (.d d) := id rfl
@[simp] theorem retB_some (b : Bool) : retB (some b) = M.ret (.d (.bool b)) := id rfl
@[simp] theorem lift_some {α : Type} (a : α) : lift (some a) = M.ret a := id rfl
@[simp] theorem tru_d (p : PyData) : tru (.d p) = lift (truthy p) := id rfl
@[simp] theorem bnd_ret' {α β : Type} (a : α) (k : α → M β) : M.bnd (M.ret a) k = k a := id rfl
@[simp] theorem bnd_bnd {α β γ : Type} (m : M α) (k : α → M β) (l : β → M γ) : M.bnd (M.bnd m k) l = M.bnd m fun a => M.bnd (k a) l := bnd_assoc m k l
@[simp] theorem bnd_ite {α β : Type} (c : Prop) [Decidable c] (a b : M α) (k : α → M β) : M.bnd (if c then a else b) k = if c then M.bnd a k else M.bnd b k := by split <;> rfl
@[simp] theorem endF_nx : endF (.nx ρ) = M.ret (.d .none) := id rfl
@[simp] theorem endF_rt (v : SV) : endF (.rt v) = M.ret v := id rfl
@[simp] theorem truthy_bool (b : Bool) : truthy (.bool b) = some b := id rfl
@[simp] theorem truthy_int (i : Int) : truthy (.int i) = some (i != 0) := id rfl
@[simp] theorem noEx_ret {α : Type} (a : α) : noEx (M.ret a) = M.ret a := id rfl
@[simp] theorem slotL_eq (i : Nat) : slotL ρ i = M.bnd (getS ρ i) listOf := by
  rw [← getS_eq]
  unfold slotL
  rcases ρ[i]? with _ | _ | x
  · rfl
  · rfl
  · cases x with
    | d p => cases p <;> rfl
    | hand => rfl
@[simp] theorem slotD_eq (i : Nat) : slotD ρ i = toD (getS ρ i) := by
  rw [← getS_eq]
  unfold slotD
  rcases ρ[i]? with _ | _ | x
  · rfl
  · rfl
  · cases x <;> rfl
@[simp] theorem listOf_list (ds : List PyData) : listOf (.d (.list ds)) = M.ret ds := id rfl
@[simp] theorem setAll_nil : setAll ρ [] = ρ := id rfl
@[simp] theorem setAll_cons (i : Nat) (d : PyData) (r : List (Nat × PyData)) : setAll ρ ((i, d) :: r) = setAll (ρ.set i (some (.d d))) r := id rfl
@[simp] theorem setSlot_eq (i : Nat) (x : SV) : setSlot ρ i x = ρ.set i (some x) := id rfl
@[simp] theorem flatOk_false (x : SV) : flatOk false x = true := by cases x <;> rfl
end
/-- a def called -/
theorem evF_at {P : List Fn} {k i : Nat} {args : List SV} {f : Fn} (h : P[i]? = some f) (hl : args.length = f.np) : evF P (k + 1) i args = M.bnd (evSs (evF P k) f.body (args.map some ++ List.replicate (f.n - args.length) none)) endF := by
  show (match P[i]? with
    | none => bad
    | some f => if args.length = f.np then M.bnd (evSs (evF P k) f.body (args.map some ++ List.replicate (f.n - args.length) none)) endF else bad) = _
  rw [h]
  simp only
  rw [if_pos hl]
/-! ### walks -/
/-- a comprehension whose turns are plain -/
theorem compL_map {α : Type} {f : PyData → M (Option PyData)} {c : α → PyData} {g : α → Option PyData} : ∀ l : List α, (∀ a ∈ l, f (c a) = M.ret (g a)) → compL f (l.map c) = M.ret (l.filterMap g)
  | [], _ => rfl
  | a :: l, h => by
    show M.bnd (f (c a)) (fun o => M.bnd (compL f (l.map c)) fun r => M.ret (match o with | some y => y :: r | none => r)) = _
    rw [h a List.mem_cons_self, compL_map l fun b hb => h b (List.mem_cons_of_mem _ hb)]
    simp only [bnd_ret', List.filterMap_cons]
    cases g a <;> rfl
theorem compF_map {α : Type} {f : PyData → M (List PyData)} {c : α → PyData} {g : α → List PyData} : ∀ l : List α, (∀ a ∈ l, f (c a) = M.ret (g a)) → compF f (l.map c) = M.ret (l.flatMap g)
  | [], _ => rfl
  | a :: l, h => by
    show M.bnd (f (c a)) (fun zs => M.bnd (compF f (l.map c)) fun r => M.ret (zs ++ r)) = _
    rw [h a List.mem_cons_self, compF_map l fun b hb => h b (List.mem_cons_of_mem _ hb)]
    rfl
/-- a loop whose turns are plain: R tells what the slots hold -/
theorem forL_plain {α β : Type} {tg : Tgt} {body : Env → M Fl} {c : α → PyData} {f : β → α → β} (R : β → Env → Prop) : ∀ (l : List α) (b : β) (ρ : Env), R b ρ →
    (∀ a ∈ l, ∀ b ρ, R b ρ → ∃ ρ1 ρ2, bindT tg (c a) ρ = some ρ1 ∧ body ρ1 = M.ret (.nx ρ2) ∧ R (f b a) ρ2) → ∃ ρ2, forL tg body (l.map c) ρ = M.ret (.nx ρ2) ∧ R (l.foldl f b) ρ2
  | [], b, ρ, h, _ => ⟨ρ, rfl, h⟩
  | a :: l, b, ρ, h, t => by
    obtain ⟨ρ1, ρ2, h1, h2, h3⟩ := t a List.mem_cons_self b ρ h
    obtain ⟨ρ3, h4, h5⟩ := forL_plain R l (f b a) ρ2 h3 fun x hx => t x (List.mem_cons_of_mem _ hx)
    refine ⟨ρ3, ?_, h5⟩
    show M.bnd (lift (bindT tg (c a) ρ)) (fun ρ1 => M.bnd (body ρ1) fun f => match f with
      | .nx ρ2 => forL tg body (l.map c) ρ2
      | .ct ρ2 => forL tg body (l.map c) ρ2
      | .bk ρ2 => M.ret (.nx ρ2)
      | .rt v => M.ret (.rt v)) = _
    rw [h1]
    simp only [lift_some, bnd_ret', h2]
    exact h4
/-- the same by the turn's number -/
theorem forL_ix {tg : Tgt} {body : Env → M Fl} (R : Nat → Env → Prop) : ∀ (ds : List PyData) (n : Nat) (ρ : Env), R n ρ →
    (∀ (i : Nat) d, ds[i]? = some d → ∀ ρ, R (n + i) ρ → ∃ ρ1 ρ2, bindT tg d ρ = some ρ1 ∧ body ρ1 = M.ret (.nx ρ2) ∧ R (n + i + 1) ρ2) → ∃ ρ2, forL tg body ds ρ = M.ret (.nx ρ2) ∧ R (n + ds.length) ρ2
  | [], n, ρ, h, _ => ⟨ρ, rfl, h⟩
  | d :: ds, n, ρ, h, t => by
    obtain ⟨ρ1, ρ2, h1, h2, h3⟩ := t 0 d rfl ρ h
    obtain ⟨ρ3, h4, h5⟩ := forL_ix R ds (n + 1) ρ2 h3 fun i d' hd ρ hr => by
      have := t (i + 1) d' (by simpa using hd) ρ (by rw [show n + (i + 1) = n + 1 + i by omega]; exact hr)
      rw [show n + (i + 1) + 1 = n + 1 + i + 1 by omega] at this
      exact this
    refine ⟨ρ3, ?_, by rw [List.length_cons, show n + (ds.length + 1) = n + 1 + ds.length by omega]; exact h5⟩
    show M.bnd (lift (bindT tg d ρ)) (fun ρ1 => M.bnd (body ρ1) fun f => match f with
      | .nx ρ2 => forL tg body ds ρ2
      | .ct ρ2 => forL tg body ds ρ2
      | .bk ρ2 => M.ret (.nx ρ2)
      | .rt v => M.ret (.rt v)) = _
    rw [h1]
    simp only [lift_some, bnd_ret', h2]
    exact h4
/-! the same where the hand may change: an invariant of it -/
theorem compL_hand {α : Type} {f : PyData → M (Option PyData)} {c : α → PyData} (I : Hand → Prop) (Pr : α → PyData → Prop) : ∀ (l : List α) (s : Hand), I s → (∀ a ∈ l, ∀ s, I s → ∃ y s', f (c a) s = .ok (some y) s' ∧ I s' ∧ Pr a y) →
    ∃ ys s', compL f (l.map c) s = .ok ys s' ∧ I s' ∧ ys.length = l.length ∧ ∀ y ∈ ys, ∃ a ∈ l, Pr a y
  | [], s, hs, _ => ⟨[], s, rfl, hs, rfl, fun _ h => nomatch h⟩
  | a :: l, s, hs, t => by
    obtain ⟨y, s1, h1, h2, h3⟩ := t a List.mem_cons_self s hs
    obtain ⟨ys, s2, h4, h5, h6, h7⟩ := compL_hand I Pr l s1 h2 fun x hx => t x (List.mem_cons_of_mem _ hx)
    refine ⟨y :: ys, s2, ?_, h5, by simp [h6], fun z hz => ?_⟩
    · show M.bnd (f (c a)) (fun o => M.bnd (compL f (l.map c)) fun r => M.ret (match o with | some y => y :: r | none => r)) s = _
      rw [bnd_ok h1, bnd_ok h4]
      rfl
    · rcases List.mem_cons.mp hz with rfl | hz
      · exact ⟨a, List.mem_cons_self, h3⟩
      · obtain ⟨b, hb, q⟩ := h7 z hz
        exact ⟨b, List.mem_cons_of_mem _ hb, q⟩
end Wv

set_option Elab.async false
set_option autoImplicit false
set_option maxRecDepth 100000
set_option maxHeartbeats 4000000
namespace Wv
open PySem
/-! the defs of the text in the small language (printed by wip/gen.py) -/
/-- is_integer -/
def F_is_integer : Fn := ⟨1, 1, [], [.ret (.and (.isi (.v 0) .int) (.not (.isi (.v 0) .bool)))]⟩
def N_is_integer : List Str := ["thing"]
/-- is_within -/
def F_is_within : Fn := ⟨3, 3, [], [.ret (.and (.call 0 [(.v 0)]) (.chain .le .le (.v 1) (.v 0) (.v 2)))]⟩
def N_is_within : List Str := ["thing", "low", "high"]
/-- is_sized -/
def F_is_sized : Fn := ⟨3, 3, [], [.ret (.and (.isi (.v 0) .tuple) (.chain .le .le (.v 1) (.bi .len [(.v 0)]) (.v 2)))]⟩
def N_is_sized : List Str := ["thing", "low", "high"]
/-- all_lots -/
def F_all_lots : Fn := ⟨5, 1, [], [.set false 1 (.lst [(.tup [])]), .for_ (.one 2) (.ex (.v 0)) [.set false 1 (.bin .add (.v 1) (.comp (.one 3) [3]
  (.ex (.v 1)) none (.bin .add (.v 3) (.tup [(.v 2)]))))], .ret (.comp (.tup [(.one 4), (.one 3)]) [3, 4] (.ex (.bi .sorted [(.comp (.one 3) [3] (.ex
  (.v 1)) none (.tup [(.bi .len [(.v 3)]), (.v 3)]))])) none (.v 3))]⟩
def N_all_lots : List Str := ["things", "found", "one", "lot", "size"]
/-- raw_are_pieces -/
def F_raw_are_pieces : Fn := ⟨3, 2, [], [.ret (.and (.call 2 [(.v 1), (.c (.int 1)), (.g (.int 6))]) (.bi .all [(.comp (.one 2) [2] (.ex (.v 1)) none
  (.call 1 [(.v 2), (.c (.int 1)), (.v 0)]))]))]⟩
def N_raw_are_pieces : List Str := ["most", "thing", "one"]
/-- check_reel -/
def F_check_reel : Fn := ⟨1, 1, [], [.ite (.not (.call 1 [(.v 0), (.c (.int 1)), (.g (.int 100))])) [.never] []]⟩
def N_check_reel : List Str := ["reel"]
/-- check_pieces -/
def F_check_pieces : Fn := ⟨2, 2, [], [.drop (.call 5 [(.v 0)]), .ite (.not (.call 4 [(.v 0), (.v 1)])) [.never] []]⟩
def N_check_pieces : List Str := ["reel", "pieces"]
/-- lengths_used -/
def F_lengths_used : Fn := ⟨5, 2, [2], [.setL 2 (.bin .mul (.lst [(.c (.int 0))]) (.ite (.cmp .gt (.bi .len [(.v 1)]) (.c (.int 0))) (.bin .add (.bi
  .max [(.v 1)]) (.c (.int 1))) (.c (.int 0)))), .for_ (.tup [(.one 3), (.one 4)]) (.zip (.v 0) (.v 1)) [.augi 2 (.v 4) .add (.v 3)], .ret (.v 2)]⟩
def N_lengths_used : List Str := ["pieces", "cuts", "found", "piece", "reel"]
/-- places_for -/
def F_places_for : Fn := ⟨7, 4, [], [.set false 4 (.call 7 [(.v 1), (.v 2)]), .set false 5 (.bin .add (.v 4) (.ite (.cmp .lt (.bi .len [(.v 4)]) (.v
  3)) (.lst [(.c (.int 0))]) (.lst []))), .ret (.comp (.one 6) [6] (.ex (.v 5)) none (.cmp .le (.bin .add (.v 6) (.idx (.v 1) (.bi .len [(.v 2)]))) (.v
  0)))]⟩
def N_places_for : List Str := ["reel", "pieces", "cuts", "many", "used", "rooms", "room"]
/-- all_cuts -/
def F_all_cuts : Fn := ⟨10, 3, [5], [.set false 3 (.lst [(.tup [])]), .for_ (.one 4) (.ex (.v 1)) [.setL 5 (.lst []), .for_ (.one 6) (.ex (.v 3)) [.set
  false 7 (.call 8 [(.v 0), (.v 1), (.v 6), (.v 2)]), .ext false 5 (.comp (.tup [(.one 8), (.one 9)]) [8, 9] (.enum (.v 7)) (some (.v 9)) (.bin .add
  (.v 6) (.tup [(.v 8)])))], .move 3 5], .ret (.v 3)]⟩
def N_all_cuts : List Str := ["reel", "pieces", "many", "found", "piece", "longer", "cuts", "flags", "place", "flag"]
/-- best_cuts -/
def F_best_cuts : Fn := ⟨5, 3, [], [.set false 3 (.comp (.one 4) [4] (.ex (.call 9 [(.v 0), (.v 1), (.v 2)])) none (.tup [(.bi .max [(.v 4)]), (.v
  4)])), .ret (.ite (.cmp .gt (.bi .len [(.v 3)]) (.c (.int 0))) (.idx (.bi .min [(.v 3)]) (.c (.int 1))) (.c .none))]⟩
def N_best_cuts : List Str := ["reel", "pieces", "many", "some", "cuts"]
/-- check_weights -/
def F_check_weights : Fn := ⟨5, 3, [], [.drop (.call 6 [(.v 0), (.v 1)]), .set false 3 (.bi .len [(.v 1)]), .ite (.or (.not (.call 2 [(.v 2), (.v 3),
  (.v 3)])) (.not (.bi .all [(.comp (.one 4) [4] (.ex (.v 2)) none (.call 1 [(.v 4), (.c (.int 0)), (.g (.int 100))]))]))) [.never] []]⟩
def N_check_weights : List Str := ["reel", "pieces", "weights", "many", "one"]
/-- fitting_lots -/
def F_fitting_lots : Fn := ⟨4, 2, [], [.ret (.comp (.one 2) [2] (.ex (.call 3 [(.lrange [(.bi .len [(.v 1)])])])) (some (.cmp .le (.bi .sum [(.comp
  (.one 3) [3] (.ex (.v 2)) none (.idx (.v 1) (.v 3)))]) (.v 0))) (.v 2))]⟩
def N_fitting_lots : List Str := ["reel", "pieces", "lot", "at"]
/-- raw_are_fair -/
def F_raw_are_fair : Fn := ⟨5, 3, [], [.ret (.not (.bi .any [(.comp (.one 3) [3] (.ex (.v 0)) none (.cmp .gt (.bi .sum [(.comp (.one 4) [4] (.ex (.v
  3)) none (.idx (.v 1) (.v 4)))]) (.v 2)))]))]⟩
def N_raw_are_fair : List Str := ["lots", "weights", "whole", "lot", "at"]
/-- check_whole -/
def F_check_whole : Fn := ⟨2, 2, [], [.ite (.not (.call 1 [(.v 0), (.c (.int 1)), (.v 1)])) [.never] []]⟩
def N_check_whole : List Str := ["whole", "most"]
/-- are_fair -/
def F_are_fair : Fn := ⟨4, 4, [], [.drop (.call 11 [(.v 0), (.v 1), (.v 2)]), .drop (.call 14 [(.v 3), (.g (.int 100))]), .ret (.call 13 [(.call 12
  [(.v 0), (.v 1)]), (.v 2), (.v 3)])]⟩
def N_are_fair : List Str := ["reel", "pieces", "weights", "whole"]
/-- heaviest_lot -/
def F_heaviest_lot : Fn := ⟨6, 3, [], [.drop (.call 11 [(.v 0), (.v 1), (.v 2)]), .set false 3 (.comp (.one 4) [4] (.ex (.call 12 [(.v 0), (.v 1)]))
  none (.tup [(.bin .sub (.c (.int 0)) (.bi .sum [(.comp (.one 5) [5] (.ex (.v 4)) none (.idx (.v 2) (.v 5)))])), (.v 4)])), .ret (.tup [(.bin .sub (.c
  (.int 0)) (.idx (.bi .min [(.v 3)]) (.c (.int 0)))), (.idx (.bi .min [(.v 3)]) (.c (.int 1)))])]⟩
def N_heaviest_lot : List Str := ["reel", "pieces", "weights", "some", "lot", "at"]
/-- reels_barred -/
def F_reels_barred : Fn := ⟨4, 4, [], [.drop (.call 11 [(.v 0), (.v 1), (.v 2)]), .drop (.call 14 [(.v 3), (.g (.int 100))]), .ite (.not (.call 13
  [(.call 12 [(.v 0), (.v 1)]), (.v 2), (.v 3)])) [.never] [], .ret (.bi .max [(.c (.int 0)), (.bin .sub (.bin .fdiv (.bin .sub (.bin .add (.bi .sum
  [(.v 2)]) (.v 3)) (.c (.int 1))) (.v 3)) (.c (.int 1)))])]⟩
def N_reels_barred : List Str := ["reel", "pieces", "weights", "whole"]
/-- best_weights -/
def F_best_weights : Fn := ⟨9, 3, [], [.drop (.call 6 [(.v 0), (.v 1)]), .drop (.call 14 [(.v 2), (.g (.int 3))]), .ite (.cmp .gt (.bi .len [(.v 1)])
  (.g (.int 5))) [.never] [], .unp false (.tup [(.one 3), (.one 4)]) (.tup [(.call 12 [(.v 0), (.v 1)]), (.lst [(.tup [])])]), .for_ (.one 5) (.ex (.v
  1)) [.set false 4 (.comp2 (.one 6) [6, 7] (.ex (.v 4)) none (.one 7) [7] (.range [(.bin .add (.v 2) (.c (.int 1)))]) none (.bin .add (.v 6) (.tup
  [(.v 7)])))], .set false 8 (.comp (.one 6) [6] (.ex (.v 4)) (some (.call 13 [(.v 3), (.v 6), (.v 2)])) (.tup [(.bin .sub (.c (.int 0)) (.bi .sum [(.v
  6)])), (.v 6)])), .ret (.tup [(.bin .sub (.c (.int 0)) (.idx (.bi .min [(.v 8)]) (.c (.int 0)))), (.idx (.bi .min [(.v 8)]) (.c (.int 1)))])]⟩
def N_best_weights : List Str := ["reel", "pieces", "whole", "lots", "found", "piece", "row", "weight", "some"]
/-- fewest_reels -/
def F_fewest_reels : Fn := ⟨2, 2, [], [.drop (.call 6 [(.v 0), (.v 1)]), .ret (.bin .add (.bi .max [(.call 10 [(.v 0), (.v 1), (.bi .len [(.v 1)])])])
  (.c (.int 1)))]⟩
def N_fewest_reels : List Str := ["reel", "pieces"]
/-- _law_draw -/
def F_law_draw : Fn := ⟨5, 2, [], [.ite (.and (.cmp .eq (.idx (.v 0) (.c (.int 2))) (.c (.int 0))) (.cmp .lt (.idx (.v 0) (.c (.int 1))) (.bi .len
  [(.idx (.v 0) (.c (.int 0)))]))) [.set false 2 (.idx (.idx (.v 0) (.c (.int 0))) (.idx (.v 0) (.c (.int 1)))), .setH 0 (.c (.int 1)) (.bin .add (.idx
  (.v 0) (.c (.int 1))) (.c (.int 1))), .setH 0 (.c (.int 3)) (.bin .mod (.bi .int [(.bin .add (.bin .add (.bin .mul (.idx (.v 0) (.c (.int 3))) (.c
  (.int 69621))) (.v 2)) (.c (.int 463)))]) (.c (.int 2147483629))), .ite (.cmp .ge (.v 2) (.bin .pow (.c (.int 10)) (.c (.int 18)))) [.setH 0 (.c
  (.int 2)) (.v 2)] []] [], .ite (.cmp .gt (.idx (.v 0) (.c (.int 2))) (.c (.int 0))) [.set false 3 (.bin .mod (.bi .int [(.idx (.v 0) (.c (.int 2)))])
  (.v 1)), .setH 0 (.c (.int 2)) (.bin .fdiv (.idx (.v 0) (.c (.int 2))) (.v 1)), .ret (.v 3)] [], .setH 0 (.c (.int 4)) (.bin .add (.idx (.v 0) (.c
  (.int 4))) (.c (.int 1))), .set false 4 (.bin .mod (.bi .int [(.bin .mul (.bi .int [(.bin .add (.idx (.v 0) (.c (.int 3))) (.bin .mul (.c (.int
  7919)) (.idx (.v 0) (.c (.int 4)))))]) (.c (.int 48271)))]) (.c (.int 2147483647))), .set false 4 (.bin .mod (.bi .int [(.bin .mul (.v 4) (.bin .add
  (.bin .fdiv (.v 4) (.c (.int 1009))) (.c (.int 69621))))]) (.c (.int 2147483647))), .set false 4 (.bin .mod (.bi .int [(.bin .mul (.v 4) (.bin .add
  (.bin .fdiv (.v 4) (.c (.int 2003))) (.c (.int 40692))))]) (.c (.int 2147483399))), .ret (.bin .mod (.bi .int [(.bin .fdiv (.v 4) (.c (.int 16)))])
  (.v 1))]⟩
def N_law_draw : List Str := ["hand", "limit", "cell", "digit", "number"]
/-- _law_some -/
def F_law_some : Fn := ⟨2, 2, [], [.ret (.idx (.v 1) (.call 20 [(.v 0), (.bi .len [(.v 1)])]))]⟩
def N_law_some : List Str := ["hand", "items"]
/-- _law_is -/
def F_law_is : Fn := ⟨4, 2, [], [.ite (.or (.isi (.v 1) .tuple) (.isi (.v 1) .list)) [.ite (.or (.cmp .ne (.isi (.v 1) .tuple) (.isi (.v 0) .tuple))
  (.cmp .ne (.isi (.v 1) .list) (.isi (.v 0) .list))) [.ret (.c (.bool false))] [], .ret (.and (.cmp .eq (.bi .len [(.v 0)]) (.bi .len [(.v 1)])) (.bi
  .all [(.comp (.tup [(.one 2), (.one 3)]) [2, 3] (.zip (.v 0) (.v 1)) none (.call 22 [(.v 2), (.v 3)]))]))] [], .ite (.or (.isi (.v 1) .dict) (.isi
  (.v 0) .dict)) [.ret (.and (.isi (.v 1) .dict) (.and (.isi (.v 0) .dict) (.cmp .eq (.v 0) (.v 1))))] [], .ite (.or (.cmp .is_ (.v 1) (.c .none))
  (.cmp .is_ (.v 0) (.c .none))) [.ret (.and (.cmp .is_ (.v 1) (.c .none)) (.cmp .is_ (.v 0) (.c .none)))] [], .ite (.or (.isi (.v 1) .bool) (.isi (.v
  0) .bool)) [.ret (.and (.isi (.v 1) .bool) (.and (.isi (.v 0) .bool) (.cmp .eq (.v 0) (.v 1))))] [], .ite (.or (.isi (.v 1) .str) (.isi (.v 0) .str))
  [.ret (.and (.isi (.v 1) .str) (.and (.isi (.v 0) .str) (.cmp .eq (.v 0) (.v 1))))] [], .ret (.and (.isi (.v 0) .int) (.cmp .eq (.v 0) (.v 1)))]⟩
def N_law_is : List Str := ["thing", "due", "one", "its"]
/-- _law_pieces -/
def F_law_pieces : Fn := ⟨4, 2, [], [.set false 2 (.bin .add (.c (.int 1)) (.call 20 [(.v 0), (.call 21 [(.v 0), (.lst [(.c (.int 10)), (.c (.int
  100))])])])), .ret (.tup [(.v 2), (.bi .tuple [(.comp (.one 3) [3] (.range [(.bin .add (.c (.int 1)) (.call 20 [(.v 0), (.v 1)]))]) none (.bin .add
  (.c (.int 1)) (.call 20 [(.v 0), (.v 2)])))])])]⟩
def N_law_pieces : List Str := ["hand", "most", "reel", "piece"]
/-- _law_lots_of -/
def F_law_lots_of : Fn := ⟨4, 1, [], [.set false 1 (.lst [(.tup [])]), .for_ (.one 2) (.range [(.v 0)]) [.set false 1 (.bin .add (.v 1) (.comp (.one 3)
  [3] (.ex (.v 1)) none (.bin .add (.v 3) (.tup [(.v 2)]))))], .ret (.bi .sorted [(.v 1)])]⟩
def N_law_lots_of : List Str := ["many", "rows", "number", "row"]
/-- _law_fitting -/
def F_law_fitting : Fn := ⟨4, 2, [], [.ret (.comp (.one 2) [2] (.ex (.call 24 [(.bi .len [(.v 1)])])) (some (.cmp .le (.bi .sum [(.comp (.one 3) [3]
  (.ex (.v 2)) none (.idx (.v 1) (.v 3)))]) (.v 0))) (.v 2))]⟩
def N_law_fitting : List Str := ["reel", "pieces", "lot", "at"]
/-- _law_heaviest -/
def F_law_heaviest : Fn := ⟨7, 3, [], [.set false 3 (.c .none), .for_ (.one 4) (.ex (.call 25 [(.v 0), (.v 1)])) [.set false 5 (.bi .sum [(.comp (.one
  6) [6] (.ex (.v 4)) none (.idx (.v 2) (.v 6)))]), .set false 3 (.ite (.or (.cmp .is_ (.v 3) (.c .none)) (.cmp .gt (.v 5) (.idx (.v 3) (.c (.int
  0))))) (.tup [(.v 5), (.v 4)]) (.v 3))], .ret (.v 3)]⟩
def N_law_heaviest : List Str := ["reel", "pieces", "weights", "best", "lot", "weight", "at"]
/-- _law_best -/
def F_law_best : Fn := ⟨12, 3, [7], [.par [3, 4, 5] [(.call 25 [(.v 0), (.v 1)]), (.lst [(.tup [])]), (.c .none)], .for_ (.one 6) (.ex (.v 1)) [.setL 7
  (.lst []), .for_ (.one 8) (.ex (.v 4)) [.ext false 7 (.comp (.one 9) [9] (.range [(.bin .add (.v 2) (.c (.int 1)))]) none (.bin .add (.v 8) (.tup
  [(.v 9)])))], .move 4 7], .for_ (.one 8) (.ex (.v 4)) [.ite (.and (.or (.cmp .is_ (.v 5) (.c .none)) (.cmp .gt (.bi .sum [(.v 8)]) (.idx (.v 5) (.c
  (.int 0))))) (.bi .all [(.comp (.one 10) [10] (.ex (.v 3)) none (.cmp .le (.bi .sum [(.comp (.one 11) [11] (.ex (.v 10)) none (.idx (.v 8) (.v
  11)))]) (.v 2)))])) [.set false 5 (.tup [(.bi .sum [(.v 8)]), (.v 8)])] []], .ret (.v 5)]⟩
def N_law_best : List Str := ["reel", "pieces", "whole", "lots", "rows", "best", "piece", "longer", "row", "weight", "lot", "at"]
/-- _law_is_right -/
def F_law_is_right : Fn := ⟨12, 1, [], [.unp false (.tup [(.one 1), (.one 2)]) (.call 23 [(.v 0), (.c (.int 6))]), .set false 3 (.bin .add (.c (.int
  1)) (.call 20 [(.v 0), (.call 21 [(.v 0), (.lst [(.c (.int 4)), (.c (.int 100))])])])), .set false 4 (.bi .tuple [(.comp (.one 5) [5] (.ex (.v 2))
  none (.call 20 [(.v 0), (.call 21 [(.v 0), (.lst [(.c (.int 2)), (.bin .add (.v 3) (.c (.int 1))), (.c (.int 101))])])]))]), .set false 6 (.call 26
  [(.v 1), (.v 2), (.v 4)]), .ite (.not (.call 22 [(.call 16 [(.v 1), (.v 2), (.v 4)]), (.v 6)])) [.ret (.c (.bool false))] [], .ite (.not (.call 22
  [(.call 15 [(.v 1), (.v 2), (.v 4), (.v 3)]), (.cmp .le (.idx (.v 6) (.c (.int 0))) (.v 3))])) [.ret (.c (.bool false))] [], .set false 7 (.bi .max
  [(.c (.int 1)), (.idx (.v 6) (.c (.int 0)))]), .set false 8 (.bi .max [(.c (.int 0)), (.bin .sub (.bin .fdiv (.bin .sub (.bin .add (.bi .sum [(.v
  4)]) (.v 7)) (.c (.int 1))) (.v 7)) (.c (.int 1)))]), .ite (.and (.cmp .le (.idx (.v 6) (.c (.int 0))) (.c (.int 100))) (.not (.call 22 [(.call 17
  [(.v 1), (.v 2), (.v 4), (.v 7)]), (.v 8)]))) [.ret (.c (.bool false))] [], .ite (.or (.cmp .ge (.v 8) (.call 19 [(.v 1), (.v 2)])) (.cmp .ne (.call
  17 [(.v 1), (.v 2), (.bin .mul (.tup [(.c (.int 0))]) (.bi .len [(.v 2)])), (.v 3)]) (.c (.int 0)))) [.ret (.c (.bool false))] [], .par [9, 10]
  [(.slice (.v 2) none (some (.c (.int 4)))), (.bin .add (.c (.int 1)) (.call 20 [(.v 0), (.c (.int 3))]))], .set false 11 (.call 18 [(.v 1), (.v 9),
  (.v 10)]), .ite (.or (.not (.call 22 [(.v 11), (.call 27 [(.v 1), (.v 9), (.v 10)])])) (.cmp .isn (.call 15 [(.v 1), (.v 9), (.idx (.v 11) (.c (.int
  1))), (.v 10)]) (.c (.bool true)))) [.ret (.c (.bool false))] [], .ret (.cmp .lt (.call 17 [(.v 1), (.v 9), (.idx (.v 11) (.c (.int 1))), (.v 10)])
  (.call 19 [(.v 1), (.v 9)]))]⟩
def N_law_is_right : List Str := ["hand", "reel", "pieces", "whole", "weights", "piece", "heavy", "fair", "barred", "few", "less", "told"]
def lawB : List St := [.ite (.or (.cmp .isn (.call 15 [(.c (.int 10)), (.tup [(.c (.int 6)), (.c (.int 6)), (.c (.int 4))]), (.tup [(.c (.int 1)), (.c
  (.int 1)), (.c (.int 0))]), (.c (.int 1))]) (.c (.bool true))) (.cmp .ne (.call 17 [(.c (.int 10)), (.tup [(.c (.int 6)), (.c (.int 6)), (.c (.int
  4))]), (.tup [(.c (.int 1)), (.c (.int 1)), (.c (.int 0))]), (.c (.int 1))]) (.c (.int 1)))) [.ret (.c (.bool false))] [], .ite (.cmp .isn (.call 15
  [(.c (.int 10)), (.tup [(.c (.int 6)), (.c (.int 6)), (.c (.int 4))]), (.tup [(.c (.int 1)), (.c (.int 1)), (.c (.int 1))]), (.c (.int 1))]) (.c
  (.bool false))) [.ret (.c (.bool false))] [], .ite (.or (.cmp .ne (.call 16 [(.c (.int 10)), (.tup [(.c (.int 6)), (.c (.int 6)), (.c (.int 4))]),
  (.tup [(.c (.int 3)), (.c (.int 3)), (.c (.int 2))])]) (.tup [(.c (.int 5)), (.tup [(.c (.int 0)), (.c (.int 2))])])) (.cmp .ne (.call 18 [(.c (.int
  10)), (.tup [(.c (.int 6)), (.c (.int 6)), (.c (.int 4))]), (.c (.int 1))]) (.tup [(.c (.int 2)), (.tup [(.c (.int 1)), (.c (.int 1)), (.c (.int
  0))])]))) [.ret (.c (.bool false))] [], .ret (.bi .all [(.comp (.one 2) [2] (.range [(.c (.int 5))]) none (.call 28 [(.v 1)]))])]
def N_law : List Str := ["script", "hand", "turn"]
def lawMs : List Nat := []
def PP : List Fn := [F_is_integer, F_is_within, F_is_sized, F_all_lots, F_raw_are_pieces, F_check_reel, F_check_pieces, F_lengths_used, F_places_for,
  F_all_cuts, F_best_cuts, F_check_weights, F_fitting_lots, F_raw_are_fair, F_check_whole, F_are_fair, F_heaviest_lot, F_reels_barred, F_best_weights,
  F_fewest_reels, F_law_draw, F_law_some, F_law_is, F_law_pieces, F_law_lots_of, F_law_fitting, F_law_heaviest, F_law_best, F_law_is_right]
def gl : List (Str × (Nat × Nat)) := [("is_integer", 0, 1), ("is_within", 1, 3), ("is_sized", 2, 3), ("all_lots", 3, 1), ("raw_are_pieces", 4, 2),
  ("check_reel", 5, 1), ("check_pieces", 6, 2), ("lengths_used", 7, 2), ("places_for", 8, 4), ("all_cuts", 9, 3), ("best_cuts", 10, 3),
  ("check_weights", 11, 3), ("fitting_lots", 12, 2), ("raw_are_fair", 13, 3), ("check_whole", 14, 2), ("are_fair", 15, 4), ("heaviest_lot", 16, 3),
  ("reels_barred", 17, 4), ("best_weights", 18, 3), ("fewest_reels", 19, 2), ("_law_draw", 20, 2), ("_law_some", 21, 2), ("_law_is", 22, 2),
  ("_law_pieces", 23, 2), ("_law_lots_of", 24, 1), ("_law_fitting", 25, 2), ("_law_heaviest", 26, 3), ("_law_best", 27, 3), ("_law_is_right", 28, 1)]
def gc : List (Str × PyData) := [("MOST_PIECES", (.int 6)), ("MOST_REEL", (.int 100)), ("MOST_PIECE_WEIGHT", (.int 100)), ("MOST_WHOLE_TRIED", (.int
  3)), ("MOST_TRIED_PIECES", (.int 5))]
def bn : List Str := ["isinstance", "bool", "int", "len", "tuple", "sorted", "all", "max", "zip", "enumerate", "min", "sum", "list", "range", "any",
  "dict", "str"]
def top (i : Nat) : Stmt := PySem.Challenge.pw_wavehouse_k59_whole_fair_weights_that_ba.main.body.getD i (.Pass ⟨0, 0, 0, 0⟩)
abbrev S_is_integer : Stmt := top 1
abbrev S_is_within : Stmt := top 2
abbrev S_is_sized : Stmt := top 3
abbrev S_all_lots : Stmt := top 4
abbrev S_raw_are_pieces : Stmt := top 18
abbrev S_check_reel : Stmt := top 19
abbrev S_check_pieces : Stmt := top 20
abbrev S_lengths_used : Stmt := top 21
abbrev S_places_for : Stmt := top 22
abbrev S_all_cuts : Stmt := top 23
abbrev S_best_cuts : Stmt := top 24
abbrev S_check_weights : Stmt := top 25
abbrev S_fitting_lots : Stmt := top 26
abbrev S_raw_are_fair : Stmt := top 27
abbrev S_check_whole : Stmt := top 28
abbrev S_are_fair : Stmt := top 29
abbrev S_heaviest_lot : Stmt := top 30
abbrev S_reels_barred : Stmt := top 31
abbrev S_best_weights : Stmt := top 32
abbrev S_fewest_reels : Stmt := top 33
abbrev S_law_draw : Stmt := top 36
abbrev S_law_some : Stmt := top 37
abbrev S_law_is : Stmt := top 38
abbrev S_law_pieces : Stmt := top 39
abbrev S_law_lots_of : Stmt := top 40
abbrev S_law_fitting : Stmt := top 41
abbrev S_law_heaviest : Stmt := top 42
abbrev S_law_best : Stmt := top 43
abbrev S_law_is_right : Stmt := top 44
abbrev S_law_hand : Stmt := top 35
abbrev S_law : Stmt := top 45
theorem K_is_integer : chkSs ⟨N_is_integer, gl, gc, bn, F_is_integer.ms⟩ (L2.defScope S_is_integer) F_is_integer.body (L2.defBody S_is_integer) = true := by decide +kernel
theorem Sc_is_integer : L2.FnScope N_is_integer ["thing"] (L2.defScope S_is_integer) := ⟨rfl, rfl, rfl, by decide +kernel, rfl, by decide +kernel, by decide +kernel⟩
theorem K_is_within : chkSs ⟨N_is_within, gl, gc, bn, F_is_within.ms⟩ (L2.defScope S_is_within) F_is_within.body (L2.defBody S_is_within) = true := by decide +kernel
theorem Sc_is_within : L2.FnScope N_is_within ["thing", "low", "high"] (L2.defScope S_is_within) := ⟨rfl, rfl, rfl, by decide +kernel, rfl, by decide +kernel, by decide +kernel⟩
theorem K_is_sized : chkSs ⟨N_is_sized, gl, gc, bn, F_is_sized.ms⟩ (L2.defScope S_is_sized) F_is_sized.body (L2.defBody S_is_sized) = true := by decide +kernel
theorem Sc_is_sized : L2.FnScope N_is_sized ["thing", "low", "high"] (L2.defScope S_is_sized) := ⟨rfl, rfl, rfl, by decide +kernel, rfl, by decide +kernel, by decide +kernel⟩
theorem K_all_lots : chkSs ⟨N_all_lots, gl, gc, bn, F_all_lots.ms⟩ (L2.defScope S_all_lots) F_all_lots.body (L2.defBody S_all_lots) = true := by decide +kernel
theorem Sc_all_lots : L2.FnScope N_all_lots ["things"] (L2.defScope S_all_lots) := ⟨rfl, rfl, rfl, by decide +kernel, rfl, by decide +kernel, by decide +kernel⟩
theorem K_raw_are_pieces : chkSs ⟨N_raw_are_pieces, gl, gc, bn, F_raw_are_pieces.ms⟩ (L2.defScope S_raw_are_pieces) F_raw_are_pieces.body (L2.defBody S_raw_are_pieces) = true := by decide +kernel
theorem Sc_raw_are_pieces : L2.FnScope N_raw_are_pieces ["most", "thing"] (L2.defScope S_raw_are_pieces) := ⟨rfl, rfl, rfl, by decide +kernel, rfl, by decide +kernel, by decide +kernel⟩
theorem K_check_reel : chkSs ⟨N_check_reel, gl, gc, bn, F_check_reel.ms⟩ (L2.defScope S_check_reel) F_check_reel.body (L2.defBody S_check_reel) = true := by decide +kernel
theorem Sc_check_reel : L2.FnScope N_check_reel ["reel"] (L2.defScope S_check_reel) := ⟨rfl, rfl, rfl, by decide +kernel, rfl, by decide +kernel, by decide +kernel⟩
theorem K_check_pieces : chkSs ⟨N_check_pieces, gl, gc, bn, F_check_pieces.ms⟩ (L2.defScope S_check_pieces) F_check_pieces.body (L2.defBody S_check_pieces) = true := by decide +kernel
theorem Sc_check_pieces : L2.FnScope N_check_pieces ["reel", "pieces"] (L2.defScope S_check_pieces) := ⟨rfl, rfl, rfl, by decide +kernel, rfl, by decide +kernel, by decide +kernel⟩
theorem K_lengths_used : chkSs ⟨N_lengths_used, gl, gc, bn, F_lengths_used.ms⟩ (L2.defScope S_lengths_used) F_lengths_used.body (L2.defBody S_lengths_used) = true := by decide +kernel
theorem Sc_lengths_used : L2.FnScope N_lengths_used ["pieces", "cuts"] (L2.defScope S_lengths_used) := ⟨rfl, rfl, rfl, by decide +kernel, rfl, by decide +kernel, by decide +kernel⟩
theorem K_places_for : chkSs ⟨N_places_for, gl, gc, bn, F_places_for.ms⟩ (L2.defScope S_places_for) F_places_for.body (L2.defBody S_places_for) = true := by decide +kernel
theorem Sc_places_for : L2.FnScope N_places_for ["reel", "pieces", "cuts", "many"] (L2.defScope S_places_for) := ⟨rfl, rfl, rfl, by decide +kernel, rfl, by decide +kernel, by decide +kernel⟩
theorem K_all_cuts : chkSs ⟨N_all_cuts, gl, gc, bn, F_all_cuts.ms⟩ (L2.defScope S_all_cuts) F_all_cuts.body (L2.defBody S_all_cuts) = true := by decide +kernel
theorem Sc_all_cuts : L2.FnScope N_all_cuts ["reel", "pieces", "many"] (L2.defScope S_all_cuts) := ⟨rfl, rfl, rfl, by decide +kernel, rfl, by decide +kernel, by decide +kernel⟩
theorem K_best_cuts : chkSs ⟨N_best_cuts, gl, gc, bn, F_best_cuts.ms⟩ (L2.defScope S_best_cuts) F_best_cuts.body (L2.defBody S_best_cuts) = true := by decide +kernel
theorem Sc_best_cuts : L2.FnScope N_best_cuts ["reel", "pieces", "many"] (L2.defScope S_best_cuts) := ⟨rfl, rfl, rfl, by decide +kernel, rfl, by decide +kernel, by decide +kernel⟩
theorem K_check_weights : chkSs ⟨N_check_weights, gl, gc, bn, F_check_weights.ms⟩ (L2.defScope S_check_weights) F_check_weights.body (L2.defBody S_check_weights) = true := by decide +kernel
theorem Sc_check_weights : L2.FnScope N_check_weights ["reel", "pieces", "weights"] (L2.defScope S_check_weights) := ⟨rfl, rfl, rfl, by decide +kernel, rfl, by decide +kernel, by decide +kernel⟩
theorem K_fitting_lots : chkSs ⟨N_fitting_lots, gl, gc, bn, F_fitting_lots.ms⟩ (L2.defScope S_fitting_lots) F_fitting_lots.body (L2.defBody S_fitting_lots) = true := by decide +kernel
theorem Sc_fitting_lots : L2.FnScope N_fitting_lots ["reel", "pieces"] (L2.defScope S_fitting_lots) := ⟨rfl, rfl, rfl, by decide +kernel, rfl, by decide +kernel, by decide +kernel⟩
theorem K_raw_are_fair : chkSs ⟨N_raw_are_fair, gl, gc, bn, F_raw_are_fair.ms⟩ (L2.defScope S_raw_are_fair) F_raw_are_fair.body (L2.defBody S_raw_are_fair) = true := by decide +kernel
theorem Sc_raw_are_fair : L2.FnScope N_raw_are_fair ["lots", "weights", "whole"] (L2.defScope S_raw_are_fair) := ⟨rfl, rfl, rfl, by decide +kernel, rfl, by decide +kernel, by decide +kernel⟩
theorem K_check_whole : chkSs ⟨N_check_whole, gl, gc, bn, F_check_whole.ms⟩ (L2.defScope S_check_whole) F_check_whole.body (L2.defBody S_check_whole) = true := by decide +kernel
theorem Sc_check_whole : L2.FnScope N_check_whole ["whole", "most"] (L2.defScope S_check_whole) := ⟨rfl, rfl, rfl, by decide +kernel, rfl, by decide +kernel, by decide +kernel⟩
theorem K_are_fair : chkSs ⟨N_are_fair, gl, gc, bn, F_are_fair.ms⟩ (L2.defScope S_are_fair) F_are_fair.body (L2.defBody S_are_fair) = true := by decide +kernel
theorem Sc_are_fair : L2.FnScope N_are_fair ["reel", "pieces", "weights", "whole"] (L2.defScope S_are_fair) := ⟨rfl, rfl, rfl, by decide +kernel, rfl, by decide +kernel, by decide +kernel⟩
theorem K_heaviest_lot : chkSs ⟨N_heaviest_lot, gl, gc, bn, F_heaviest_lot.ms⟩ (L2.defScope S_heaviest_lot) F_heaviest_lot.body (L2.defBody S_heaviest_lot) = true := by decide +kernel
theorem Sc_heaviest_lot : L2.FnScope N_heaviest_lot ["reel", "pieces", "weights"] (L2.defScope S_heaviest_lot) := ⟨rfl, rfl, rfl, by decide +kernel, rfl, by decide +kernel, by decide +kernel⟩
theorem K_reels_barred : chkSs ⟨N_reels_barred, gl, gc, bn, F_reels_barred.ms⟩ (L2.defScope S_reels_barred) F_reels_barred.body (L2.defBody S_reels_barred) = true := by decide +kernel
theorem Sc_reels_barred : L2.FnScope N_reels_barred ["reel", "pieces", "weights", "whole"] (L2.defScope S_reels_barred) := ⟨rfl, rfl, rfl, by decide +kernel, rfl, by decide +kernel, by decide +kernel⟩
theorem K_best_weights : chkSs ⟨N_best_weights, gl, gc, bn, F_best_weights.ms⟩ (L2.defScope S_best_weights) F_best_weights.body (L2.defBody S_best_weights) = true := by decide +kernel
theorem Sc_best_weights : L2.FnScope N_best_weights ["reel", "pieces", "whole"] (L2.defScope S_best_weights) := ⟨rfl, rfl, rfl, by decide +kernel, rfl, by decide +kernel, by decide +kernel⟩
theorem K_fewest_reels : chkSs ⟨N_fewest_reels, gl, gc, bn, F_fewest_reels.ms⟩ (L2.defScope S_fewest_reels) F_fewest_reels.body (L2.defBody S_fewest_reels) = true := by decide +kernel
theorem Sc_fewest_reels : L2.FnScope N_fewest_reels ["reel", "pieces"] (L2.defScope S_fewest_reels) := ⟨rfl, rfl, rfl, by decide +kernel, rfl, by decide +kernel, by decide +kernel⟩
theorem K_law_draw : chkSs ⟨N_law_draw, gl, gc, bn, F_law_draw.ms⟩ (L2.defScope S_law_draw) F_law_draw.body (L2.defBody S_law_draw) = true := by decide +kernel
theorem Sc_law_draw : L2.FnScope N_law_draw ["hand", "limit"] (L2.defScope S_law_draw) := ⟨rfl, rfl, rfl, by decide +kernel, rfl, by decide +kernel, by decide +kernel⟩
theorem K_law_some : chkSs ⟨N_law_some, gl, gc, bn, F_law_some.ms⟩ (L2.defScope S_law_some) F_law_some.body (L2.defBody S_law_some) = true := by decide +kernel
theorem Sc_law_some : L2.FnScope N_law_some ["hand", "items"] (L2.defScope S_law_some) := ⟨rfl, rfl, rfl, by decide +kernel, rfl, by decide +kernel, by decide +kernel⟩
theorem K_law_is : chkSs ⟨N_law_is, gl, gc, bn, F_law_is.ms⟩ (L2.defScope S_law_is) F_law_is.body (L2.defBody S_law_is) = true := by decide +kernel
theorem Sc_law_is : L2.FnScope N_law_is ["thing", "due"] (L2.defScope S_law_is) := ⟨rfl, rfl, rfl, by decide +kernel, rfl, by decide +kernel, by decide +kernel⟩
theorem K_law_pieces : chkSs ⟨N_law_pieces, gl, gc, bn, F_law_pieces.ms⟩ (L2.defScope S_law_pieces) F_law_pieces.body (L2.defBody S_law_pieces) = true := by decide +kernel
theorem Sc_law_pieces : L2.FnScope N_law_pieces ["hand", "most"] (L2.defScope S_law_pieces) := ⟨rfl, rfl, rfl, by decide +kernel, rfl, by decide +kernel, by decide +kernel⟩
theorem K_law_lots_of : chkSs ⟨N_law_lots_of, gl, gc, bn, F_law_lots_of.ms⟩ (L2.defScope S_law_lots_of) F_law_lots_of.body (L2.defBody S_law_lots_of) = true := by decide +kernel
theorem Sc_law_lots_of : L2.FnScope N_law_lots_of ["many"] (L2.defScope S_law_lots_of) := ⟨rfl, rfl, rfl, by decide +kernel, rfl, by decide +kernel, by decide +kernel⟩
theorem K_law_fitting : chkSs ⟨N_law_fitting, gl, gc, bn, F_law_fitting.ms⟩ (L2.defScope S_law_fitting) F_law_fitting.body (L2.defBody S_law_fitting) = true := by decide +kernel
theorem Sc_law_fitting : L2.FnScope N_law_fitting ["reel", "pieces"] (L2.defScope S_law_fitting) := ⟨rfl, rfl, rfl, by decide +kernel, rfl, by decide +kernel, by decide +kernel⟩
theorem K_law_heaviest : chkSs ⟨N_law_heaviest, gl, gc, bn, F_law_heaviest.ms⟩ (L2.defScope S_law_heaviest) F_law_heaviest.body (L2.defBody S_law_heaviest) = true := by decide +kernel
theorem Sc_law_heaviest : L2.FnScope N_law_heaviest ["reel", "pieces", "weights"] (L2.defScope S_law_heaviest) := ⟨rfl, rfl, rfl, by decide +kernel, rfl, by decide +kernel, by decide +kernel⟩
theorem K_law_best : chkSs ⟨N_law_best, gl, gc, bn, F_law_best.ms⟩ (L2.defScope S_law_best) F_law_best.body (L2.defBody S_law_best) = true := by decide +kernel
theorem Sc_law_best : L2.FnScope N_law_best ["reel", "pieces", "whole"] (L2.defScope S_law_best) := ⟨rfl, rfl, rfl, by decide +kernel, rfl, by decide +kernel, by decide +kernel⟩
theorem K_law_is_right : chkSs ⟨N_law_is_right, gl, gc, bn, F_law_is_right.ms⟩ (L2.defScope S_law_is_right) F_law_is_right.body (L2.defBody S_law_is_right) = true := by decide +kernel
theorem Sc_law_is_right : L2.FnScope N_law_is_right ["hand"] (L2.defScope S_law_is_right) := ⟨rfl, rfl, rfl, by decide +kernel, rfl, by decide +kernel, by decide +kernel⟩
theorem K_law : chkSs ⟨N_law, gl, gc, bn, lawMs⟩ (L2.defScope S_law) lawB ((L2.defBody S_law).drop 1) = true := by decide +kernel
theorem Sc_law : L2.FnScope N_law ["script"] (L2.defScope S_law) := ⟨rfl, rfl, rfl, by decide +kernel, rfl, by decide +kernel, by decide +kernel⟩
theorem Sc_law_hand : L2.FnScope ["script", "cells", "cell"] ["script"] (L2.defScope S_law_hand) := ⟨rfl, rfl, rfl, by decide +kernel, rfl, by decide +kernel, by decide +kernel⟩
end Wv

set_option Elab.async false
set_option autoImplicit false
set_option maxRecDepth 100000
set_option maxHeartbeats 0
namespace Wv
open PySem PySem.Spec PyProof.Rows
abbrev OR : PySem.W.OpenRow := PySem.W.OpenLaw.row PySem.Challenge.rw_wavehouse_k59_whole_fair_weights_that_ba
def D_is_integer : He.DefD := ⟨("is_integer", none), "is_integer", "is_integer", L2.defArgs S_is_integer, L2.defBody S_is_integer, L2.defScope S_is_integer, [], []⟩
def D_is_within : He.DefD := ⟨("is_within", none), "is_within", "is_within", L2.defArgs S_is_within, L2.defBody S_is_within, L2.defScope S_is_within, [], []⟩
def D_is_sized : He.DefD := ⟨("is_sized", none), "is_sized", "is_sized", L2.defArgs S_is_sized, L2.defBody S_is_sized, L2.defScope S_is_sized, [], []⟩
def D_all_lots : He.DefD := ⟨("all_lots", none), "all_lots", "all_lots", L2.defArgs S_all_lots, L2.defBody S_all_lots, L2.defScope S_all_lots, [], []⟩
def D_raw_are_pieces : He.DefD := ⟨("raw_are_pieces", none), "raw_are_pieces", "raw_are_pieces", L2.defArgs S_raw_are_pieces, L2.defBody S_raw_are_pieces, L2.defScope S_raw_are_pieces, [], []⟩
def D_check_reel : He.DefD := ⟨("check_reel", none), "check_reel", "check_reel", L2.defArgs S_check_reel, L2.defBody S_check_reel, L2.defScope S_check_reel, [], []⟩
def D_check_pieces : He.DefD := ⟨("check_pieces", none), "check_pieces", "check_pieces", L2.defArgs S_check_pieces, L2.defBody S_check_pieces, L2.defScope S_check_pieces, [], []⟩
def D_lengths_used : He.DefD := ⟨("lengths_used", none), "lengths_used", "lengths_used", L2.defArgs S_lengths_used, L2.defBody S_lengths_used, L2.defScope S_lengths_used, [], []⟩
def D_places_for : He.DefD := ⟨("places_for", none), "places_for", "places_for", L2.defArgs S_places_for, L2.defBody S_places_for, L2.defScope S_places_for, [], []⟩
def D_all_cuts : He.DefD := ⟨("all_cuts", none), "all_cuts", "all_cuts", L2.defArgs S_all_cuts, L2.defBody S_all_cuts, L2.defScope S_all_cuts, [], []⟩
def D_best_cuts : He.DefD := ⟨("best_cuts", none), "best_cuts", "best_cuts", L2.defArgs S_best_cuts, L2.defBody S_best_cuts, L2.defScope S_best_cuts, [], []⟩
def D_check_weights : He.DefD := ⟨("check_weights", none), "check_weights", "check_weights", L2.defArgs S_check_weights, L2.defBody S_check_weights, L2.defScope S_check_weights, [], []⟩
def D_fitting_lots : He.DefD := ⟨("fitting_lots", none), "fitting_lots", "fitting_lots", L2.defArgs S_fitting_lots, L2.defBody S_fitting_lots, L2.defScope S_fitting_lots, [], []⟩
def D_raw_are_fair : He.DefD := ⟨("raw_are_fair", none), "raw_are_fair", "raw_are_fair", L2.defArgs S_raw_are_fair, L2.defBody S_raw_are_fair, L2.defScope S_raw_are_fair, [], []⟩
def D_check_whole : He.DefD := ⟨("check_whole", none), "check_whole", "check_whole", L2.defArgs S_check_whole, L2.defBody S_check_whole, L2.defScope S_check_whole, [], []⟩
def D_are_fair : He.DefD := ⟨("are_fair", none), "are_fair", "are_fair", L2.defArgs S_are_fair, L2.defBody S_are_fair, L2.defScope S_are_fair, [], []⟩
def D_heaviest_lot : He.DefD := ⟨("heaviest_lot", none), "heaviest_lot", "heaviest_lot", L2.defArgs S_heaviest_lot, L2.defBody S_heaviest_lot, L2.defScope S_heaviest_lot, [], []⟩
def D_reels_barred : He.DefD := ⟨("reels_barred", none), "reels_barred", "reels_barred", L2.defArgs S_reels_barred, L2.defBody S_reels_barred, L2.defScope S_reels_barred, [], []⟩
def D_best_weights : He.DefD := ⟨("best_weights", none), "best_weights", "best_weights", L2.defArgs S_best_weights, L2.defBody S_best_weights, L2.defScope S_best_weights, [], []⟩
def D_fewest_reels : He.DefD := ⟨("fewest_reels", none), "fewest_reels", "fewest_reels", L2.defArgs S_fewest_reels, L2.defBody S_fewest_reels, L2.defScope S_fewest_reels, [], []⟩
def D_law_draw : He.DefD := ⟨("_law_draw", none), "_law_draw", "_law_draw", L2.defArgs S_law_draw, L2.defBody S_law_draw, L2.defScope S_law_draw, [], []⟩
def D_law_some : He.DefD := ⟨("_law_some", none), "_law_some", "_law_some", L2.defArgs S_law_some, L2.defBody S_law_some, L2.defScope S_law_some, [], []⟩
def D_law_is : He.DefD := ⟨("_law_is", none), "_law_is", "_law_is", L2.defArgs S_law_is, L2.defBody S_law_is, L2.defScope S_law_is, [], []⟩
def D_law_pieces : He.DefD := ⟨("_law_pieces", none), "_law_pieces", "_law_pieces", L2.defArgs S_law_pieces, L2.defBody S_law_pieces, L2.defScope S_law_pieces, [], []⟩
def D_law_lots_of : He.DefD := ⟨("_law_lots_of", none), "_law_lots_of", "_law_lots_of", L2.defArgs S_law_lots_of, L2.defBody S_law_lots_of, L2.defScope S_law_lots_of, [], []⟩
def D_law_fitting : He.DefD := ⟨("_law_fitting", none), "_law_fitting", "_law_fitting", L2.defArgs S_law_fitting, L2.defBody S_law_fitting, L2.defScope S_law_fitting, [], []⟩
def D_law_heaviest : He.DefD := ⟨("_law_heaviest", none), "_law_heaviest", "_law_heaviest", L2.defArgs S_law_heaviest, L2.defBody S_law_heaviest, L2.defScope S_law_heaviest, [], []⟩
def D_law_best : He.DefD := ⟨("_law_best", none), "_law_best", "_law_best", L2.defArgs S_law_best, L2.defBody S_law_best, L2.defScope S_law_best, [], []⟩
def D_law_is_right : He.DefD := ⟨("_law_is_right", none), "_law_is_right", "_law_is_right", L2.defArgs S_law_is_right, L2.defBody S_law_is_right, L2.defScope S_law_is_right, [], []⟩
def D_law_hand : He.DefD := ⟨("_law_hand", none), "_law_hand", "_law_hand", L2.defArgs S_law_hand, L2.defBody S_law_hand, L2.defScope S_law_hand, [], []⟩
def D_law : He.DefD := ⟨("law", none), "law", "law", L2.defArgs S_law, L2.defBody S_law, L2.defScope S_law, [], []⟩
def hfn : List He.DefD := ([D_is_integer, D_is_within, D_is_sized, D_all_lots, D_raw_are_pieces, D_check_reel, D_check_pieces, D_lengths_used, D_places_for, D_all_cuts, D_best_cuts, D_check_weights, D_fitting_lots, D_raw_are_fair, D_check_whole, D_are_fair, D_heaviest_lot, D_reels_barred, D_best_weights, D_fewest_reels, D_law_draw, D_law_some, D_law_is, D_law_pieces, D_law_lots_of, D_law_fitting, D_law_heaviest, D_law_best, D_law_is_right, D_law_hand] : List He.DefD) ++ ([D_law] : List He.DefD)
def hfa : List He.Fa := ([.glo "is_integer", .glo "is_within", .glo "is_sized", .glo "all_lots", .glo "raw_are_pieces", .glo "check_reel", .glo "check_pieces", .glo "lengths_used", .glo "places_for", .glo "all_cuts", .glo "best_cuts", .glo "check_weights", .glo "fitting_lots", .glo "raw_are_fair", .glo "check_whole", .glo "are_fair", .glo "heaviest_lot", .glo "reels_barred", .glo "best_weights", .glo "fewest_reels", .glo "_law_draw", .glo "_law_some", .glo "_law_is", .glo "_law_pieces", .glo "_law_lots_of", .glo "_law_fitting", .glo "_law_heaviest", .glo "_law_best", .glo "_law_is_right", .glo "_law_hand"] : List He.Fa) ++ ([.glo "law", .free "isinstance", .free "bool", .free "int", .free "len", .free "tuple", .free "sorted", .free "all", .free "max", .free "zip", .free "enumerate", .free "min", .free "sum", .free "list", .free "range", .free "any", .free "dict", .free "str", .free "abs", .int "MOST_PIECES" 6, .int "MOST_REEL" 100, .int "MOST_PIECE_WEIGHT" 100, .int "MOST_WHOLE_TRIED" 3, .int "MOST_TRIED_PIECES" 5] : List He.Fa)
def hloose : List Str := (["__name__", "is_integer", "is_within", "is_sized", "all_lots", "WaveError", "NoNumber", "NoPieces", "NoReel", "NoWeights", "TooMany", "MOST_REEL", "MOST_PIECES", "MOST_PIECE_WEIGHT", "MOST_WHOLE_TRIED", "MOST_TRIED_PIECES", "raw_are_pieces", "check_reel", "check_pieces", "lengths_used", "places_for", "all_cuts", "best_cuts", "check_weights", "fitting_lots", "raw_are_fair", "check_whole", "are_fair", "heaviest_lot", "reels_barred"] : List Str) ++ (["best_weights", "fewest_reels", "_law_hand", "_law_draw", "_law_some", "_law_is", "_law_pieces", "_law_lots_of", "_law_fitting", "_law_heaviest", "_law_best", "_law_is_right"] : List Str)
def hlaw : Nat := 45
def offGlo : Nat := 0
def offFree : Nat := 31
def offInt : Nat := 49
abbrev hk : PySem.W.Hook := He.hookD 4 hfa hfn
def hob (s : PySem.W.SharedT) : He.AlD := He.obsDG 4 hfa hfn (HandSHeadRun.getT s)
theorem hob_eq (s : PySem.W.SharedT) : hob s = hk.obs s.abs := He.obsDG_eq (HandSHeadRun.getT_eq s)
theorem hrun (w : World) : HandSHeadRun.RunEq OR (PySem.W.view OR.prog [hlaw]) hk hob 6000 hloose w := by
  intro os
  kernel_rfl
end Wv

set_option Elab.async false
set_option autoImplicit false
set_option linter.all false
set_option maxRecDepth 100000
set_option maxHeartbeats 4000000
namespace Wv
open PySem PySem.W
/-- a tuple of ints -/
def iT (l : List Int) : PyData := .tuple (l.map .int)
@[simp] theorem cmp_le_int (i j : Int) : cmpop .le (.int i) (.int j) = some (decide (i ≤ j)) := id rfl
@[simp] theorem cmp_lt_int (i j : Int) : cmpop .lt (.int i) (.int j) = some (decide (i < j)) := id rfl
@[simp] theorem cmp_gt_int (i j : Int) : cmpop .gt (.int i) (.int j) = some (decide (j < i)) := id rfl
@[simp] theorem cmp_ge_int (i j : Int) : cmpop .ge (.int i) (.int j) = some (decide (j ≤ i)) := id rfl
@[simp] theorem cmp_eq_int (i j : Int) : cmpop .eq (.int i) (.int j) = some (decide (i = j)) := id rfl
@[simp] theorem cmp_ne_int (i j : Int) : cmpop .ne (.int i) (.int j) = some (!decide (i = j)) := id rfl
@[simp] theorem bin_add_int (i j : Int) : binop .add (.int i) (.int j) = some (.int (i + j)) := id rfl
@[simp] theorem bin_sub_int (i j : Int) : binop .sub (.int i) (.int j) = some (.int (i - j)) := id rfl
theorem sz : 100000 ≤ sizeLine := by decide
theorem bin_add_tup {xs ys : List PyData} (h : xs.length + ys.length ≤ 100000) : binop .add (.tuple xs) (.tuple ys) = some (.tuple (xs ++ ys)) := by
  show (if xs.length + ys.length ≤ sizeLine then _ else _) = _
  rw [if_pos (Nat.le_trans h sz)]
theorem bin_add_lst {xs ys : List PyData} (h : xs.length + ys.length ≤ 100000) : binop .add (.list xs) (.list ys) = some (.list (xs ++ ys)) := by
  show (if xs.length + ys.length ≤ sizeLine then _ else _) = _
  rw [if_pos (Nat.le_trans h sz)]
@[simp] theorem ints_map (l : List Int) : ints? (l.map .int) = some l := by
  induction l with
  | nil => rfl
  | cons a l ih => simp [ints?, ih]
@[simp] theorem bools_map (l : List Bool) : bools? (l.map .bool) = some l := by
  induction l with
  | nil => rfl
  | cons a l ih => simp [bools?, ih]
@[simp] theorem bi_len_list (xs : List PyData) : biop .len [.list xs] = some (.int xs.length) := id rfl
@[simp] theorem bi_len_tup (xs : List PyData) : biop .len [.tuple xs] = some (.int xs.length) := id rfl
@[simp] theorem bi_sum_list (l : List Int) : biop .sum [.list (l.map .int)] = some (.int l.sum) := by simp [biop, bSum]
@[simp] theorem bi_sum_tup (l : List Int) : biop .sum [.tuple (l.map .int)] = some (.int l.sum) := by simp [biop, bSum]
@[simp] theorem bi_sum_map {α : Type} (f : α → Int) (l : List α) : biop .sum [.list (l.map (PyData.int ∘ f))] = some (.int (l.map f).sum) := by
  rw [← List.map_map]; exact bi_sum_list _
@[simp] theorem bi_sum_map' {α : Type} (f : α → Int) (l : List α) : biop .sum [.list (l.map fun a => PyData.int (f a))] = some (.int (l.map f).sum) := bi_sum_map f l
@[simp] theorem bi_all_list (l : List Bool) : biop .all [.list (l.map .bool)] = some (.bool (l.all id)) := by simp [biop, bAll]
@[simp] theorem bi_any_list (l : List Bool) : biop .any [.list (l.map .bool)] = some (.bool (l.any id)) := by simp [biop, bAny]
@[simp] theorem bi_tup_list (l : List PyData) : biop .tuple [.list l] = some (.tuple l) := id rfl
@[simp] theorem bi_abs (i : Int) : biop .abs [.int i] = some (.int (if i < 0 then -i else i)) := id rfl
@[simp] theorem bi_int (i : Int) : biop .int [.int i] = some (.int i) := id rfl
@[simp] theorem seqD_list (xs : List PyData) : seqD (.list xs) = some xs := id rfl
@[simp] theorem seqD_tup (xs : List PyData) : seqD (.tuple xs) = some xs := id rfl
@[simp] theorem bi_len_iT (l : List Int) : biop .len [iT l] = some (.int l.length) := by
  show some (PyData.int (l.map PyData.int).length) = _
  rw [List.length_map]
@[simp] theorem bi_sum_iT (l : List Int) : biop .sum [iT l] = some (.int l.sum) := bi_sum_tup l
@[simp] theorem seqD_iT (l : List Int) : seqD (iT l) = some (l.map .int) := id rfl
@[simp] theorem isTy_iT (l : List Int) (t : Ty) : isTy t (iT l) = decide (t = .tuple) := by cases t <;> rfl
section
variable (call : Nat → List SV → M SV) (ρ : Env)
@[simp] theorem bindT_one (i : Nat) (x : PyData) : bindT (.one i) x ρ = some (ρ.set i (some (.d x))) := id rfl
@[simp] theorem bindT_two (i j : Nat) (x y : PyData) : bindT (.tup [.one i, .one j]) (.tuple [x, y]) ρ = some ((ρ.set i (some (.d x))).set j (some (.d y))) := id rfl
@[simp] theorem wipe1 (i : Nat) : wipeE ρ [i] = ρ.set i none := id rfl
@[simp] theorem wipe2 (i j : Nat) : wipeE ρ [i, j] = (ρ.set j none).set i none := id rfl
@[simp] theorem turnM_eq (tg : Tgt) (own : List Nat) (cd : Option Ex) (e : Ex) (x : PyData) : turnM call tg own cd e ρ x =
  M.bnd (lift (bindT tg x (wipeE ρ own))) fun ρ1 => M.bnd (evC call cd ρ1) fun t => if t then M.bnd (toD (evE call e ρ1)) fun y => M.ret (some y) else M.ret none := id rfl
end
theorem noEx_ite {α : Type} (c : Bool) (a b : α) : noEx (if c = true then M.ret a else M.ret b) = M.ret (if c = true then a else b) := by cases c <;> rfl
/-- the item at a place -/
def at0 (ws : List Int) (i : Int) : Int := ws.getD i.toNat 0
/-- items of a tuple of ints -/
theorem idx_iT {l : List Int} {i : Int} (h0 : 0 ≤ i) (h1 : i < l.length) : idxop (.tuple (l.map .int)) (.int i) = some (.int (at0 l i)) := by
  unfold at0
  show L2.atI (l.map PyData.int) i = _
  unfold L2.atI
  have e : L2.ixN (l.map PyData.int).length i = some i.toNat := by
    unfold L2.ixN
    rw [List.length_map, if_pos h0, if_pos (by omega)]
  rw [e]
  simp only [List.getElem?_map]
  have : i.toNat < l.length := by omega
  simp [List.getD, List.getElem?_eq_getElem this]
theorem idx_iT' {l : List Int} {i : Int} (h0 : 0 ≤ i) (h1 : i < l.length) : idxop (iT l) (.int i) = some (.int (at0 l i)) := idx_iT h0 h1
theorem e_is_integer (k : Nat) (t : Int) : evF PP (k + 1) 0 [.d (.int t)] = M.ret (.d (.bool true)) := by
  rw [evF_at (f := F_is_integer) rfl rfl]
  simp [F_is_integer, isTy]
theorem e_is_within (k : Nat) (t a b : Int) : evF PP (k + 2) 1 [.d (.int t), .d (.int a), .d (.int b)] = M.ret (.d (.bool (decide (a ≤ t) && decide (t ≤ b)))) := by
  rw [evF_at (f := F_is_within) rfl rfl]
  simp [F_is_within, e_is_integer]
  by_cases h : a ≤ t <;> simp [h]
theorem e_is_sized (k : Nat) (xs : List PyData) (a b : Int) : evF PP (k + 1) 2 [.d (.tuple xs), .d (.int a), .d (.int b)] = M.ret (.d (.bool (decide (a ≤ xs.length) && decide ((xs.length : Int) ≤ b)))) := by
  rw [evF_at (f := F_is_sized) rfl rfl]
  simp [F_is_sized, isTy]
  by_cases h : a ≤ xs.length <;> simp [h]
/-! ### lots -/
def lotsU : Nat → List (List Int)
  | 0 => [[]]
  | n + 1 => lotsU n ++ (lotsU n).map (· ++ [(n : Int)])
theorem lotsU_len : ∀ n, (lotsU n).length = 2 ^ n
  | 0 => rfl
  | n + 1 => by simp [lotsU, lotsU_len n, Nat.pow_succ]; omega
theorem lotsU_in : ∀ {n : Nat} {l : List Int}, l ∈ lotsU n → l.length ≤ n ∧ ∀ i ∈ l, 0 ≤ i ∧ i < n
  | 0, l, h => by simp [lotsU] at h; subst h; simp
  | n + 1, l, h => by
    simp only [lotsU, List.mem_append, List.mem_map] at h
    rcases h with h | ⟨m, h, rfl⟩
    · obtain ⟨h1, h2⟩ := lotsU_in h
      exact ⟨by omega, fun i hi => by have := h2 i hi; omega⟩
    · obtain ⟨h1, h2⟩ := lotsU_in h
      refine ⟨by simp; omega, fun i hi => ?_⟩
      rcases List.mem_append.mp hi with q | q
      · have := h2 i q; omega
      · simp at q; omega
def addOne (found : List (List Int)) (one : Int) : List (List Int) := found ++ found.map (· ++ [one])
theorem lots_fold (n : Nat) : ((List.range n).map fun i : Nat => (i : Int)).foldl addOne [[]] = lotsU n := by
  induction n with
  | zero => rfl
  | succ n ih => rw [List.range_succ, List.map_append, List.foldl_append, ih]; rfl
theorem pow_le {n : Nat} (h : n ≤ 6) : 2 ^ n ≤ 64 := by
  have := Nat.pow_le_pow_right (show 2 > 0 by decide) h
  exact this
theorem fm_some {α β : Type} (f : α → β) (l : List α) : l.filterMap (fun a => some (f a)) = l.map f := by simp
/-- a comprehension without a test -/
theorem compL_el {α : Type} {f : PyData → M (Option PyData)} {c : α → PyData} {g : α → PyData} (l : List α) (h : ∀ a ∈ l, f (c a) = M.ret (some (g a))) : compL f (l.map c) = M.ret (l.map g) := by
  rw [compL_map (g := fun a => some (g a)) l h, fm_some]
/-- a comprehension that filters -/
theorem compL_if {α : Type} {f : PyData → M (Option PyData)} {c g : α → PyData} {p : α → Bool} (l : List α) (h : ∀ a ∈ l, f (c a) = M.ret (if p a = true then some (g a) else none)) : compL f (l.map c) = M.ret ((l.filter p).map g) := by
  rw [compL_map (g := fun a => if p a = true then some (g a) else none) l h]
  congr 1
  induction l with
  | nil => rfl
  | cons a l ih =>
    have ih := ih fun b hb => h b (List.mem_cons_of_mem _ hb)
    cases q : p a <;> simp [q, ih]
/-- sorted data keep their kind -/
theorem sort_perm {α : Type} (c : α → PyData) (l : List α) : ∃ l' : List α, l'.Perm l ∧ sortD (l.map c) = l'.map c := by
  refine ⟨l.mergeSort fun a b => PySem.W.dataLe false (fun d => d) (c a) (c b), List.mergeSort_perm _ _, ?_⟩
  unfold sortD
  exact (List.map_mergeSort (f := c) (r := fun a b => PySem.W.dataLe false (fun d => d) (c a) (c b)) (s := PySem.W.dataLe false fun d => d) (l := l) (fun a _ b _ => rfl)).symm
theorem alike_iT (a b : List Int) : alike (iT a) (iT b) = true := alike_ints a b
theorem depth_iT (a : List Int) : (iT a).depth = 1 := by
  show (PyData.tuple (a.map .int)).depth = 1
  rw [PyData.depth, depth_ints]
def pairT (n : Int) (l : List Int) : PyData := .tuple [.int n, iT l]
theorem alike_pairT (n m : Int) (a b : List Int) : alike (pairT n a) (pairT m b) = true := by
  show alikeAll _ _ = true
  simp [alikeAll, alike_iT]
  rfl
theorem depth_pairT (n : Int) (a : List Int) : (pairT n a).depth ≤ 3 := by
  show (PyData.tuple [.int n, iT a]).depth ≤ 3
  rw [PyData.depth]
  simp [PyData.depthAll, depth_iT, PyData.depth]
theorem depthAll_le {n : Nat} : ∀ {l : List PyData}, (∀ d ∈ l, d.depth ≤ n) → PyData.depthAll l ≤ n
  | [], _ => by simp [PyData.depthAll]
  | d :: l, h => by
    have h1 := h d List.mem_cons_self
    have h2 := depthAll_le (l := l) fun x hx => h x (List.mem_cons_of_mem _ hx)
    simp only [PyData.depthAll]
    omega
theorem alikeAllB_ok {l : List PyData} (h : ∀ x ∈ l, isNone x = false ∧ ∀ y ∈ l, alike x y = true) : alikeAllB l = true := by
  unfold alikeAllB
  rw [List.all_eq_true]
  intro x hx
  rw [(h x hx).1]
  simp only [Bool.not_false, Bool.true_and]
  rw [List.all_eq_true]
  exact (h x hx).2
theorem depthOk_ok {l : List PyData} (h : ∀ d ∈ l, d.depth ≤ 3) : depthOk l = true := by
  unfold depthOk
  have := depthAll_le h
  exact decide_eq_true (by omega)
theorem e_sorted_pairs {α : Type} (n : α → Int) (a : α → List Int) (l : List α) : ∃ l' : List α, l'.Perm l ∧ biop .sorted [.list (l.map fun x => pairT (n x) (a x))] = some (.list (l'.map fun x => pairT (n x) (a x))) := by
  obtain ⟨l', h1, h2⟩ := sort_perm (fun x => pairT (n x) (a x)) l
  refine ⟨l', h1, ?_⟩
  show (if alikeAllB _ && depthOk _ && sortableB _ then some (PyData.list (sortD _)) else none) = _
  rw [if_pos, h2]
  rw [alikeAllB_ok, depthOk_ok]
  · simp only [Bool.true_and]
    unfold sortableB
    have : (l.map fun x => pairT (n x) (a x)).all isTup1 = true := by
      rw [List.all_eq_true]
      intro x hx
      obtain ⟨y, _, rfl⟩ := List.mem_map.mp hx
      rfl
    rw [this]
    rfl
  · intro d hd
    obtain ⟨y, _, rfl⟩ := List.mem_map.mp hd
    exact depth_pairT _ _
  · intro x hx
    obtain ⟨y, _, rfl⟩ := List.mem_map.mp hx
    refine ⟨rfl, fun z hz => ?_⟩
    obtain ⟨w, _, rfl⟩ := List.mem_map.mp hz
    exact alike_pairT _ _ _ _
theorem e_all_lots (k n : Nat) (hn : n ≤ 6) : ∃ ls : List (List Int), ls.Perm (lotsU n) ∧ evF PP (k + 1) 3 [.d (.list ((List.range n).map fun i : Nat => .int (i : Int)))] = M.ret (.d (.list (ls.map iT))) := by
  obtain ⟨ls, h1, h2⟩ := e_sorted_pairs (fun l : List Int => (l.length : Int)) (fun l => l) (lotsU n)
  refine ⟨ls, h1, ?_⟩
  rw [evF_at (f := F_all_lots) rfl rfl]
  have e0 : (List.range n).map (fun i : Nat => PyData.int (i : Int)) = ((List.range n).map fun i : Nat => (i : Int)).map PyData.int := by simp
  rw [e0]
  generalize hA : PyData.list (((List.range n).map fun i : Nat => (i : Int)).map PyData.int) = A
  have step : ∀ (i : Nat) d, (((List.range n).map fun i : Nat => (i : Int)).map PyData.int)[i]? = some d → ∀ ρ, (∃ o, ρ = [some (.d A), some (.d (.list ((lotsU (0 + i)).map iT))), o, none, none]) →
      ∃ ρ1 ρ2, bindT (.one 2) d ρ = some ρ1 ∧ evSs (evF PP k) [.set false 1 (.bin .add (.v 1) (.comp (.one 3) [3] (.ex (.v 1)) none (.bin .add (.v 3) (.tup [.v 2]))))] ρ1 = M.ret (.nx ρ2) ∧ ∃ o, ρ2 = [some (.d A), some (.d (.list ((lotsU (0 + i + 1)).map iT))), o, none, none] := by
    intro i d hd ρ ⟨o, e⟩
    subst e
    rw [Nat.zero_add]
    simp only [List.getElem?_map] at hd
    have hi : i < n := by
      by_cases h : i < n
      · exact h
      · rw [List.getElem?_eq_none (by simp; omega)] at hd; cases hd
    rw [List.getElem?_range hi] at hd
    cases hd
    refine ⟨_, [some (.d A), some (.d (.list ((lotsU (i + 1)).map iT))), some (.d (.int (i : Int))), none, none], rfl, ?_, ⟨_, rfl⟩⟩
    simp
    rw [compL_el (c := iT) (g := fun l => iT (l ++ [(i : Int)])) (lotsU i) fun l hl => ?_]
    · simp only [bnd_ret', retD_some, lift_some]
      rw [bin_add_lst (by simp [lotsU_len]; have := pow_le (n := i) (by omega); omega)]
      simp [lotsU, Function.comp_def]
    · have := (lotsU_in hl).1
      simp [iT]
      rw [bin_add_tup (by simp; omega)]
      simp
  obtain ⟨ρ2, f1, f2⟩ := forL_ix (fun j ρ => ∃ o, ρ = [some (.d A), some (.d (.list ((lotsU j).map iT))), o, none, none]) _ 0 [some (.d A), some (.d (.list [iT []])), none, none, none] ⟨none, rfl⟩ step
  simp only [List.length_map, List.length_range, Nat.zero_add] at f2
  obtain ⟨o, rfl⟩ := f2
  have f1' := f1
  subst hA
  simp [F_all_lots] at f1 ⊢
  rw [show (PyData.tuple [] : PyData) = iT [] from rfl, f1]
  simp
  rw [compL_el (c := iT) (g := fun l => pairT (l.length : Int) l) (lotsU n) fun l hl => ?_]
  · simp only [bnd_ret', lift_some, toD_ret, ed_cons, h2, retD_some, seqD_list]
    rw [compL_el (c := fun l : List Int => pairT (l.length : Int) l) (g := iT) ls fun l hl => ?_]
    · simp
    · simp [pairT]
  · simp [iT, pairT]
/-! ### lots that fit -/
def pk (ws : List Int) (lot : List Int) : Int := (lot.map (at0 ws)).sum
theorem range_nat {n : Nat} (h : n ≤ 1000) : rangeD [.int (n : Int)] = some ((List.range n).map fun i : Nat => .int (i : Int)) := by
  show (if small62 (n : Int) && decide ((n : Int) ≤ 1000000) then some (upto 0 (n : Int)) else none) = _
  rw [if_pos]
  · unfold upto
    simp
  · simp [small62]
    omega
/-- the items of a tuple of ints at a lot's places -/
theorem items_at {f : PyData → M (Option PyData)} {ws lot : List Int} (hl : ∀ i ∈ lot, 0 ≤ i ∧ i < ws.length) (h : ∀ i : Int, 0 ≤ i → i < ws.length → f (.int i) = M.ret (some (.int (at0 ws i)))) :
    compL f (lot.map .int) = M.ret ((lot.map (at0 ws)).map .int) := by
  rw [compL_el (c := PyData.int) (g := fun i => .int (at0 ws i)) lot fun i hi => h i (hl i hi).1 (hl i hi).2]
  simp [Function.comp_def]
end Wv

set_option Elab.async false
set_option autoImplicit false
set_option linter.all false
set_option maxRecDepth 100000
set_option maxHeartbeats 4000000
namespace Wv
open PySem PySem.W
theorem e_fitting (k : Nat) (reel : Int) (ps : List Int) (h : ps.length ≤ 6) : ∃ ls : List (List Int), (∀ l, l ∈ ls ↔ l ∈ lotsU ps.length ∧ pk ps l ≤ reel) ∧ evF PP (k + 2) 12 [.d (.int reel), .d (iT ps)] = M.ret (.d (.list (ls.map iT))) := by
  obtain ⟨ls, h1, h2⟩ := e_all_lots k ps.length h
  refine ⟨ls.filter fun l => decide (pk ps l ≤ reel), fun l => by rw [List.mem_filter, h1.mem_iff]; simp, ?_⟩
  rw [evF_at (f := F_fitting_lots) rfl rfl]
  have hr : rangeD [.int (ps.length : Int)] = some ((List.range ps.length).map fun i : Nat => .int (i : Int)) := range_nat (by omega)
  simp [F_fitting_lots, hr, h2]
  rw [compL_if (c := iT) (g := iT) (p := fun l => decide (pk ps l ≤ reel)) ls fun l hl => ?_]
  · simp
  · simp
    rw [items_at (ws := ps) (fun i hi => by have := (lotsU_in (h1.mem_iff.mp hl)).2 i hi; omega) fun i i0 i1 => by simp [idx_iT' i0 i1]]
    by_cases q : (l.map (at0 ps)).sum ≤ reel <;> simp [pk, q]
/-- no lot is heavier than the whole -/
theorem e_raw_fair (k : Nat) (ls : List (List Int)) (ws : List Int) (whole : Int) (h : ∀ l ∈ ls, ∀ i ∈ l, 0 ≤ i ∧ i < ws.length) :
    evF PP (k + 1) 13 [.d (.list (ls.map iT)), .d (iT ws), .d (.int whole)] = M.ret (.d (.bool (!(ls.any fun l => decide (whole < pk ws l))))) := by
  rw [evF_at (f := F_raw_are_fair) rfl rfl]
  simp [F_raw_are_fair]
  rw [compL_el (c := iT) (g := fun l => .bool (decide (whole < pk ws l))) ls fun l hl => ?_]
  · have e : ls.map (fun l => PyData.bool (decide (whole < pk ws l))) = (ls.map fun l => decide (whole < pk ws l)).map PyData.bool := by simp [Function.comp_def]
    simp only [bnd_ret', ed_nil, e, bi_any_list, retD_some, toD_ret]
    simp [Function.comp_def]
  · simp
    rw [items_at (ws := ws) (h l hl) fun i i0 i1 => by simp [idx_iT' i0 i1]]
    simp [pk]
    rfl
/-! ### the checks -/
structure GoodP (reel : Int) (ps : List Int) : Prop where
  r1 : 1 ≤ reel
  r2 : reel ≤ 100
  l1 : 1 ≤ ps.length
  l2 : ps.length ≤ 6
  p : ∀ x ∈ ps, 1 ≤ x ∧ x ≤ reel
structure GoodW (ps ws : List Int) : Prop where
  len : ws.length = ps.length
  w : ∀ x ∈ ws, 0 ≤ x ∧ x ≤ 100
theorem all_true {l : List Int} {p : Int → Bool} (h : ∀ x ∈ l, p x = true) : (l.map p).all id = true := by
  rw [List.all_eq_true]
  intro b hb
  obtain ⟨x, hx, rfl⟩ := List.mem_map.mp hb
  exact h x hx
theorem e_is_sized' (k : Nat) (l : List Int) (a b : Int) : evF PP (k + 1) 2 [.d (iT l), .d (.int a), .d (.int b)] = M.ret (.d (.bool (decide (a ≤ l.length) && decide ((l.length : Int) ≤ b)))) := by
  have := e_is_sized k (l.map .int) a b
  rw [List.length_map] at this
  exact this
theorem e_are_pieces (k : Nat) {reel : Int} {ps : List Int} (g : GoodP reel ps) : evF PP (k + 3) 4 [.d (.int reel), .d (iT ps)] = M.ret (.d (.bool true)) := by
  rw [evF_at (f := F_raw_are_pieces) rfl rfl]
  have l1 := g.l1
  have l2 := g.l2
  simp [F_raw_are_pieces, e_is_sized']
  rw [if_pos (by omega)]
  rw [compL_el (c := PyData.int) (g := fun x => .bool (decide (1 ≤ x) && decide (x ≤ reel))) ps fun x hx => by simp [e_is_within]]
  have e : ps.map (fun x => PyData.bool (decide (1 ≤ x) && decide (x ≤ reel))) = (ps.map fun x => decide (1 ≤ x) && decide (x ≤ reel)).map PyData.bool := by simp [Function.comp_def]
  simp only [bnd_ret', e, bi_all_list, retD_some, toD_ret, ed_nil]
  rw [all_true fun x hx => by have := g.p x hx; simp [this]]
theorem e_check_reel (k : Nat) {reel : Int} (h1 : 1 ≤ reel) (h2 : reel ≤ 100) : evF PP (k + 3) 5 [.d (.int reel)] = M.ret (.d .none) := by
  rw [evF_at (f := F_check_reel) rfl rfl]
  simp [F_check_reel, e_is_within, h1, h2]
theorem e_check_pieces (k : Nat) {reel : Int} {ps : List Int} (g : GoodP reel ps) : evF PP (k + 4) 6 [.d (.int reel), .d (iT ps)] = M.ret (.d .none) := by
  rw [evF_at (f := F_check_pieces) rfl rfl]
  simp [F_check_pieces, e_check_reel k g.r1 g.r2, e_are_pieces k g]
theorem e_check_weights (k : Nat) {reel : Int} {ps ws : List Int} (g : GoodP reel ps) (w : GoodW ps ws) : evF PP (k + 5) 11 [.d (.int reel), .d (iT ps), .d (iT ws)] = M.ret (.d .none) := by
  rw [evF_at (f := F_check_weights) rfl rfl]
  have hl := w.len
  simp [F_check_weights, e_check_pieces k g]
  simp [e_is_sized', hl]
  rw [compL_el (c := PyData.int) (g := fun x => .bool (decide (0 ≤ x) && decide (x ≤ 100))) ws fun x hx => by simp [e_is_within]]
  have e : ws.map (fun x => PyData.bool (decide (0 ≤ x) && decide (x ≤ 100))) = (ws.map fun x => decide (0 ≤ x) && decide (x ≤ 100)).map PyData.bool := by simp [Function.comp_def]
  simp only [bnd_ret', e, bi_all_list, retD_some, toD_ret, ed_nil]
  rw [all_true fun x hx => by have := w.w x hx; simp [this]]
  simp
theorem e_check_whole (k : Nat) {whole most : Int} (h1 : 1 ≤ whole) (h2 : whole ≤ most) : evF PP (k + 3) 14 [.d (.int whole), .d (.int most)] = M.ret (.d .none) := by
  rw [evF_at (f := F_check_whole) rfl rfl]
  simp [F_check_whole, e_is_within, h1, h2]
end Wv

set_option Elab.async false
set_option autoImplicit false
set_option linter.all false
set_option maxRecDepth 100000
set_option maxHeartbeats 4000000
namespace Wv
open PySem PySem.W
/-! ### order of data -/
theorem dl_irrefl (x : PyData) : dataLt x x = false := (PyProof.Rows.listOrd PyProof.Rows.itemOrd).irrefl (keyToks x)
theorem dl_trans {x y z : PyData} (h : dataLt x y = true) (h2 : dataLt y z = true) : dataLt x z = true := (PyProof.Rows.listOrd PyProof.Rows.itemOrd).trans _ _ _ h h2
theorem dl_neg {x z : PyData} (y : PyData) (h : dataLt x z = true) : dataLt x y = true ∨ dataLt y z = true := (PyProof.Rows.listOrd PyProof.Rows.itemOrd).negTrans _ _ _ h
theorem dl_total {x y : PyData} (h : dataLt x y = false) (h2 : dataLt y x = false) : keyToks x = keyToks y := (PyProof.Rows.listOrd PyProof.Rows.itemOrd).total _ _ h h2
theorem toks_ints : ∀ {l m : List Int}, keyToksAll (l.map .int) = keyToksAll (m.map .int) → l = m
  | [], [], _ => rfl
  | [], b :: m, h => by simp [keyToksAll] at h
  | a :: l, [], h => by simp [keyToksAll] at h
  | a :: l, b :: m, h => by
    simp only [List.map_cons, keyToksAll, keyToks, List.cons_append, List.nil_append, List.cons.injEq, Sum.inl.injEq, true_and] at h
    rw [h.1, toks_ints h.2]
theorem toks_iT {l m : List Int} (h : keyToks (iT l) = keyToks (iT m)) : l = m := toks_ints h
theorem minD_spec : ∀ (xs : List PyData) (x : PyData), minD x xs ∈ x :: xs ∧ ∀ y ∈ x :: xs, dataLt y (minD x xs) = false
  | [], x => ⟨List.mem_cons_self, fun y hy => by simp at hy; subst hy; exact dl_irrefl _⟩
  | a :: xs, x => by
    show minD (if dataLt a x then a else x) xs ∈ _ ∧ ∀ y ∈ x :: a :: xs, dataLt y (minD (if dataLt a x then a else x) xs) = false
    obtain ⟨h1, h2⟩ := minD_spec xs (if dataLt a x then a else x)
    generalize hm : minD (if dataLt a x then a else x) xs = m at *
    cases hax : dataLt a x with
    | true =>
      rw [hax] at h1 h2
      simp only [if_true] at h1 h2
      refine ⟨List.mem_cons_of_mem _ h1, fun y hy => ?_⟩
      rcases List.mem_cons.mp hy with rfl | hy
      · cases q : dataLt y m with
        | false => rfl
        | true => have := dl_trans hax q; rw [h2 a List.mem_cons_self] at this; cases this
      · exact h2 y hy
    | false =>
      rw [hax] at h1 h2
      simp only [Bool.false_eq_true, if_false] at h1 h2
      refine ⟨?_, fun y hy => ?_⟩
      · rcases List.mem_cons.mp h1 with h | h
        · rw [h]; exact List.mem_cons_self
        · exact List.mem_cons_of_mem _ (List.mem_cons_of_mem _ h)
      · rcases List.mem_cons.mp hy with rfl | hy
        · exact h2 y List.mem_cons_self
        · rcases List.mem_cons.mp hy with rfl | hy
          · cases q : dataLt y m with
            | false => rfl
            | true =>
              rcases dl_neg x q with z | z
              · rw [hax] at z; cases z
              · rw [h2 x List.mem_cons_self] at z; cases z
          · exact h2 y (List.mem_cons_of_mem _ hy)
theorem dl_int (a b : Int) : dataLt (.int a) (.int b) = decide (a < b) := dataLt_int a b
theorem dl_pair {a b : Int} {l m : List Int} (h : dataLt (pairT a l) (pairT b m) = false) : b ≤ a ∧ (a = b → dataLt (iT l) (iT m) = false) := by
  unfold pairT at h
  rw [dataLt_pair (show alike (.int a) (.int b) = true from rfl) (alike_iT l m)] at h
  have e : PyData.eqv (.int a) (.int b) = decide (a = b) := by rw [PyData.eqv]; rfl
  rw [e] at h
  by_cases q : a = b
  · subst q
    simp only [decide_true, if_true] at h
    refine ⟨Int.le_refl _, fun _ => ?_⟩
    split at h
    · rename_i z
      have := (toks_eqv (iT l) (iT m) (alike_iT l m)).1 z
      unfold dataLt
      rw [this]
      exact dl_irrefl (iT m)
    · exact h
  · rw [decide_eq_false q] at h
    simp only [Bool.false_eq_true, if_false, dl_int, decide_eq_false_iff_not] at h
    exact ⟨by omega, fun z => absurd z q⟩
/-- the lightest pair of some -/
theorem bi_min_pairs {α : Type} (n : α → Int) (a : α → List Int) (x : α) (xs : List α) : ∃ y ∈ x :: xs, biop .min [.list ((x :: xs).map fun x => pairT (n x) (a x))] = some (pairT (n y) (a y)) ∧
    ∀ z ∈ x :: xs, n y ≤ n z ∧ (n z = n y → dataLt (iT (a z)) (iT (a y)) = false) := by
  obtain ⟨h1, h2⟩ := minD_spec (xs.map fun x => pairT (n x) (a x)) (pairT (n x) (a x))
  have h1 : minD (pairT (n x) (a x)) (xs.map fun x => pairT (n x) (a x)) ∈ (x :: xs).map fun x => pairT (n x) (a x) := h1
  obtain ⟨y, hy, e⟩ := List.mem_map.mp h1
  refine ⟨y, hy, ?_, fun z hz => ?_⟩
  · show (if alikeAllB ((x :: xs).map fun x => pairT (n x) (a x)) && depthOk ((x :: xs).map fun x => pairT (n x) (a x)) then some (minD (pairT (n x) (a x)) (xs.map fun x => pairT (n x) (a x))) else none) = _
    rw [if_pos, e]
    rw [alikeAllB_ok, depthOk_ok]
    · rfl
    · intro d hd
      obtain ⟨y, _, rfl⟩ := List.mem_map.mp hd
      exact depth_pairT _ _
    · intro x hx
      obtain ⟨y, _, rfl⟩ := List.mem_map.mp hx
      refine ⟨rfl, fun z hz => ?_⟩
      obtain ⟨w, _, rfl⟩ := List.mem_map.mp hz
      exact alike_pairT _ _ _ _
  · have := h2 (pairT (n z) (a z)) (show pairT (n z) (a z) ∈ (x :: xs).map fun x => pairT (n x) (a x) from List.mem_map.mpr ⟨z, hz, rfl⟩)
    rw [← e] at this
    obtain ⟨q1, q2⟩ := dl_pair this
    exact ⟨q1, q2⟩
/-! ### fair, heavy -/
def fairB (reel : Int) (ps ws : List Int) (whole : Int) : Bool := (lotsU ps.length).all fun l => !decide (pk ps l ≤ reel) || decide (pk ws l ≤ whole)
theorem fair_iff {reel : Int} {ps ws : List Int} {whole : Int} : fairB reel ps ws whole = true ↔ ∀ l ∈ lotsU ps.length, pk ps l ≤ reel → pk ws l ≤ whole := by
  unfold fairB
  rw [List.all_eq_true]
  constructor
  · intro h l hl hp
    have := h l hl
    simp [hp] at this
    exact this
  · intro h l hl
    by_cases q : pk ps l ≤ reel
    · simp [q, h l hl q]
    · simp [q]
theorem any_fair {reel whole : Int} {ps ws : List Int} {ls : List (List Int)} (h : ∀ l, l ∈ ls ↔ l ∈ lotsU ps.length ∧ pk ps l ≤ reel) : (!(ls.any fun l => decide (whole < pk ws l))) = fairB reel ps ws whole := by
  cases q : fairB reel ps ws whole with
  | true =>
    rw [Bool.not_eq_true', List.any_eq_false]
    intro l hl
    have := fair_iff.mp q l ((h l).mp hl).1 ((h l).mp hl).2
    simp
    omega
  | false =>
    rw [Bool.not_eq_false', List.any_eq_true]
    unfold fairB at q
    rw [List.all_eq_false] at q
    obtain ⟨l, hl, z⟩ := q
    simp at z
    exact ⟨l, (h l).mpr ⟨hl, z.1⟩, by simp; exact z.2⟩
theorem e_are_fair (k : Nat) {reel whole : Int} {ps ws : List Int} (g : GoodP reel ps) (w : GoodW ps ws) (h1 : 1 ≤ whole) (h2 : whole ≤ 100) :
    evF PP (k + 6) 15 [.d (.int reel), .d (iT ps), .d (iT ws), .d (.int whole)] = M.ret (.d (.bool (fairB reel ps ws whole))) := by
  rw [evF_at (f := F_are_fair) rfl rfl]
  obtain ⟨ls, a1, a2⟩ := e_fitting (k + 3) reel ps g.l2
  have a3 := e_raw_fair (k + 4) ls ws whole fun l hl i hi => by
    have := (lotsU_in ((a1 l).mp hl).1).2 i hi
    have := w.len
    omega
  simp [F_are_fair, e_check_weights k g w, e_check_whole (k + 2) h1 h2, a2, a3]
  rw [← any_fair a1]
structure IsHeavy (reel : Int) (ps ws : List Int) (L : List Int) : Prop where
  lot : L ∈ lotsU ps.length
  fit : pk ps L ≤ reel
  max : ∀ l ∈ lotsU ps.length, pk ps l ≤ reel → pk ws l ≤ pk ws L
  first : ∀ l ∈ lotsU ps.length, pk ps l ≤ reel → pk ws l = pk ws L → dataLt (iT l) (iT L) = false
theorem IsHeavy.uniq {reel : Int} {ps ws : List Int} {L L' : List Int} (h : IsHeavy reel ps ws L) (h' : IsHeavy reel ps ws L') : L = L' := by
  have e : pk ws L = pk ws L' := by
    have a := h.max L' h'.lot h'.fit
    have b := h'.max L h.lot h.fit
    omega
  exact toks_iT (dl_total (h'.first L h.lot h.fit e) (h.first L' h'.lot h'.fit e.symm))
theorem nil_lot (n : Nat) : ([] : List Int) ∈ lotsU n := by
  induction n with
  | zero => simp [lotsU]
  | succ n ih => simp [lotsU, ih]
theorem idx_pair0 (n : Int) (l : List Int) : idxop (pairT n l) (.int 0) = some (.int n) := rfl
theorem idx_pair1 (n : Int) (l : List Int) : idxop (pairT n l) (.int 1) = some (iT l) := rfl
theorem e_heaviest (k : Nat) {reel : Int} {ps ws : List Int} (g : GoodP reel ps) (w : GoodW ps ws) :
    ∃ L, IsHeavy reel ps ws L ∧ evF PP (k + 6) 16 [.d (.int reel), .d (iT ps), .d (iT ws)] = M.ret (.d (pairT (pk ws L) L)) := by
  obtain ⟨ls, a1, a2⟩ := e_fitting (k + 3) reel ps g.l2
  have r1 := g.r1
  have hne : ([] : List Int) ∈ ls := (a1 []).mpr ⟨nil_lot _, by simp [pk]; omega⟩
  have hlen := w.len
  obtain ⟨x, xs, hls⟩ : ∃ x xs, ls = x :: xs := by
    cases ls with
    | nil => cases hne
    | cons x xs => exact ⟨x, xs, rfl⟩
  obtain ⟨y, hy, m1, m2⟩ := bi_min_pairs (fun l => -pk ws l) (fun l => l) x xs
  rw [← hls] at hy m1 m2
  refine ⟨y, ⟨((a1 y).mp hy).1, ((a1 y).mp hy).2, fun l hl hf => ?_, fun l hl hf he => ?_⟩, ?_⟩
  · have := (m2 l ((a1 l).mpr ⟨hl, hf⟩)).1
    omega
  · exact (m2 l ((a1 l).mpr ⟨hl, hf⟩)).2 (by simp [he])
  · rw [evF_at (f := F_heaviest_lot) rfl rfl]
    simp [F_heaviest_lot, e_check_weights k g w, a2]
    rw [compL_el (c := iT) (g := fun l => pairT (-pk ws l) l) ls fun l hl => ?_]
    · simp [m1, idx_pair0, idx_pair1]
      rfl
    · simp
      rw [items_at (ws := ws) (fun i hi => by have := (lotsU_in ((a1 l).mp hl).1).2 i hi; omega) fun i i0 i1 => by simp [idx_iT' i0 i1]]
      simp [pk, pairT]
/-! ### reels barred -/
def barredBy (ws : List Int) (whole : Int) : Int := if 1 < (ws.sum + whole - 1) / whole then (ws.sum + whole - 1) / whole - 1 else 0
theorem bi_max_int (i j : Int) : biop .max [.int i, .int j] = some (.int (if j > i then j else i)) := rfl
theorem fdiv_pos {i j : Int} (h : 0 < j) (h2 : j < 1000000000) : binop .fdiv (.int i) (.int j) = some (.int (i / j)) := by
  show (if decide (j ≠ 0) && decide (j.natAbs < 1073741824) then some (PyData.int (i.fdiv j)) else none) = _
  rw [if_pos, Int.fdiv_eq_ediv_of_nonneg _ (by omega)]
  simp
  omega
theorem e_barred (k : Nat) {reel whole : Int} {ps ws : List Int} (g : GoodP reel ps) (w : GoodW ps ws) (h1 : 1 ≤ whole) (h2 : whole ≤ 100) (hf : fairB reel ps ws whole = true) :
    evF PP (k + 6) 17 [.d (.int reel), .d (iT ps), .d (iT ws), .d (.int whole)] = M.ret (.d (.int (barredBy ws whole))) := by
  rw [evF_at (f := F_reels_barred) rfl rfl]
  obtain ⟨ls, a1, a2⟩ := e_fitting (k + 3) reel ps g.l2
  have a3 := e_raw_fair (k + 4) ls ws whole fun l hl i hi => by
    have := (lotsU_in ((a1 l).mp hl).1).2 i hi
    have := w.len
    omega
  rw [any_fair a1, hf] at a3
  simp [F_reels_barred, e_check_weights k g w, e_check_whole (k + 2) h1 h2, a2, a3, fdiv_pos (show 0 < whole by omega) (by omega), bi_max_int]
  rfl
end Wv

set_option Elab.async false
set_option autoImplicit false
set_option linter.all false
set_option maxRecDepth 100000
set_option maxHeartbeats 4000000
namespace Wv
open PySem PySem.W
/-! ### cuts: how the pieces lie on the reels -/
def cT (cs : List Nat) : PyData := iT (cs.map fun c : Nat => (c : Int))
def nr : List Nat → Nat
  | [] => 0
  | c :: cs => max (c + 1) (nr cs)
def loadZ (z : List (Int × Nat)) (r : Nat) : Int := (z.map fun q => if q.2 = r then q.1 else 0).sum
theorem nr_lt {cs : List Nat} {c : Nat} (h : c ∈ cs) : c < nr cs := by
  induction cs with
  | nil => cases h
  | cons a cs ih =>
    simp only [nr]
    rcases List.mem_cons.mp h with rfl | h
    · omega
    · have := ih h; omega
theorem nr_app (cs : List Nat) (c : Nat) : nr (cs ++ [c]) = max (nr cs) (c + 1) := by
  induction cs with
  | nil => simp [nr]
  | cons a cs ih => simp only [List.cons_append, nr, ih]; omega
theorem nr_max (c : Nat) (cs : List Nat) : (cs.map fun c : Nat => (c : Int)).foldl max (c : Int) = ((nr (c :: cs) : Nat) : Int) - 1 := by
  induction cs generalizing c with
  | nil => simp [nr]
  | cons a cs ih =>
    simp only [List.map_cons, List.foldl_cons]
    rw [show max (c : Int) (a : Int) = ((max c a : Nat) : Int) by omega, ih]
    simp only [nr]
    omega
theorem bi_max_iT (c : Int) (cs : List Int) : biop .max [iT (c :: cs)] = some (.int (cs.foldl max c)) := by
  show (if alikeAllB ((c :: cs).map PyData.int) && depthOk ((c :: cs).map PyData.int) then some (maxD (.int c) (cs.map .int)) else none) = _
  rw [maxD_ints, if_pos]
  rw [alikeAllB_ok, depthOk_ok]
  · rfl
  · intro d hd
    obtain ⟨y, _, rfl⟩ := List.mem_map.mp hd
    simp [PyData.depth]
  · intro x hx
    obtain ⟨y, _, rfl⟩ := List.mem_map.mp hx
    refine ⟨rfl, fun z hz => ?_⟩
    obtain ⟨w, _, rfl⟩ := List.mem_map.mp hz
    rfl
theorem bi_max_cT {cs : List Nat} (h : cs ≠ []) : biop .max [cT cs] = some (.int ((nr cs : Nat) - 1)) := by
  cases cs with
  | nil => exact absurd rfl h
  | cons c cs =>
    show biop .max [iT ((c : Int) :: cs.map fun c : Nat => (c : Int))] = _
    rw [bi_max_iT, nr_max]
theorem pairUp_zip : ∀ (ps : List Int) (cs : List Nat), pairUp (ps.map PyData.int) ((cs.map fun c : Nat => (c : Int)).map PyData.int) = (ps.zip cs).map fun q => .tuple [.int q.1, .int (q.2 : Int)]
  | [], _ => rfl
  | _ :: _, [] => rfl
  | p :: ps, c :: cs => by
    have ih := pairUp_zip ps cs
    simp only [List.map_cons, pairUp, List.zip_cons_cons, ih]
theorem load_take {z : List (Int × Nat)} {i : Nat} {q : Int × Nat} (h : z[i]? = some q) (r : Nat) : loadZ (z.take (i + 1)) r = loadZ (z.take i) r + if q.2 = r then q.1 else 0 := by
  unfold loadZ
  rw [List.take_add_one, h]
  simp
theorem bin_mul_zero {n : Nat} (h : n ≤ 1000) : binop .mul (.list [.int 0]) (.int (n : Int)) = some (.list ((List.range n).map fun _ => .int 0)) := by
  show (if repOk 1 (n : Int) then some (PyData.list (rep [.int 0] (n : Int))) else none) = _
  rw [if_pos]
  · unfold rep
    congr 2
    rw [Int.toNat_natCast]
    clear h
    induction n with
    | zero => rfl
    | succ n ih => rw [List.replicate_succ', List.flatten_append, ih, List.range_succ, List.map_append]; rfl
  · have := sz
    simp [repOk]
    omega
theorem idxN_range {n : Nat} {f : Nat → PyData} {c : Nat} (h : c < n) : idxN ((List.range n).map f) (c : Int) = some (f c) := by
  show L2.atI _ _ = _
  unfold L2.atI
  have e : L2.ixN ((List.range n).map f).length (c : Int) = some c := by
    unfold L2.ixN
    rw [List.length_map, List.length_range, if_pos (by omega), if_pos (by omega)]
    rfl
  rw [e]
  simp [List.getElem?_range h]
theorem setIdx_range {n : Nat} {f : Nat → PyData} {c : Nat} {d : PyData} (h : c < n) : setIdx ((List.range n).map f) (c : Int) d = some ((List.range n).map fun r => if c = r then d else f r) := by
  unfold setIdx
  have e : L2.ixN ((List.range n).map f).length (c : Int) = some c := by
    unfold L2.ixN
    rw [List.length_map, List.length_range, if_pos (by omega), if_pos (by omega)]
    rfl
  rw [e]
  simp only [Option.map_some]
  congr 1
  refine List.ext_getElem? fun i => ?_
  by_cases hi : i < n
  · by_cases q : c = i
    · subst q
      rw [List.getElem?_set_self (by simpa using h)]
      simp [List.getElem?_range h]
    · rw [List.getElem?_set_ne q]
      simp [List.getElem?_range hi, q]
  · rw [List.getElem?_eq_none (by simp; omega), List.getElem?_eq_none (by simp; omega)]
def usedL (ps : List Int) (cs : List Nat) : List PyData := (List.range (nr cs)).map fun r => .int (loadZ (ps.zip cs) r)
theorem e_used (k : Nat) {ps : List Int} {cs : List Nat} (hl : cs.length ≤ ps.length) (hn : nr cs ≤ 1000) : evF PP (k + 1) 7 [.d (iT ps), .d (cT cs)] = M.ret (.d (.list (usedL ps cs))) := by
  rw [evF_at (f := F_lengths_used) rfl rfl]
  have first : evE (evF PP k) (.bin .mul (.lst [.c (.int 0)]) (.ite (.cmp .gt (.bi .len [.v 1]) (.c (.int 0))) (.bin .add (.bi .max [.v 1]) (.c (.int 1))) (.c (.int 0)))) [some (.d (iT ps)), some (.d (cT cs)), none, none, none] = M.ret (.d (.list ((List.range (nr cs)).map fun _ => .int 0))) := by
    by_cases h : cs = []
    · subst h
      simp [cT, nr]
      exact congrArg retD (bin_mul_zero (n := 0) (by omega))
    · have hm := bi_max_cT h
      have h0 : 0 < cs.length := List.length_pos_iff.mpr h
      have e := bin_mul_zero hn
      have e1 : biop .len [cT cs] = some (.int cs.length) := by unfold cT; simp
      simp [hm, e1, h0, e]
  have step : ∀ (i : Nat) d, ((ps.zip cs).map fun q => PyData.tuple [.int q.1, .int (q.2 : Int)])[i]? = some d → ∀ ρ, (∃ o1 o2, ρ = [some (.d (iT ps)), some (.d (cT cs)), some (.d (.list ((List.range (nr cs)).map fun r => .int (loadZ ((ps.zip cs).take (0 + i)) r)))), o1, o2]) →
      ∃ ρ1 ρ2, bindT (.tup [.one 3, .one 4]) d ρ = some ρ1 ∧ evSs (evF PP k) [.augi 2 (.v 4) .add (.v 3)] ρ1 = M.ret (.nx ρ2) ∧ ∃ o1 o2, ρ2 = [some (.d (iT ps)), some (.d (cT cs)), some (.d (.list ((List.range (nr cs)).map fun r => .int (loadZ ((ps.zip cs).take (0 + i + 1)) r)))), o1, o2] := by
    intro i d hd ρ ⟨o1, o2, e⟩
    subst e
    rw [List.getElem?_map] at hd
    obtain ⟨q, hq, rfl⟩ := Option.map_eq_some_iff.mp hd
    have hc : q.2 ∈ cs := (List.of_mem_zip (List.mem_of_getElem? hq)).2
    have hlt := nr_lt hc
    refine ⟨_, [some (.d (iT ps)), some (.d (cT cs)), some (.d (.list ((List.range (nr cs)).map fun r => .int (loadZ ((ps.zip cs).take (0 + i + 1)) r)))), some (.d (.int q.1)), some (.d (.int (q.2 : Int)))], bindT_two _ 3 4 _ _, ?_, _, _, rfl⟩
    simp only [Nat.zero_add]
    simp [idxN_range hlt, augop, setIdx_range hlt]
    congr 8
    refine List.map_congr_left fun r hr => ?_
    rw [load_take hq]
    by_cases z : q.2 = r
    · subst z; simp
    · simp [z]
  obtain ⟨ρ2, f1, o1, o2, f2⟩ := forL_ix (fun i ρ => ∃ o1 o2, ρ = [some (.d (iT ps)), some (.d (cT cs)), some (.d (.list ((List.range (nr cs)).map fun r => .int (loadZ ((ps.zip cs).take i) r)))), o1, o2]) _ 0
    [some (.d (iT ps)), some (.d (cT cs)), some (.d (.list ((List.range (nr cs)).map fun _ => .int 0))), none, none] ⟨none, none, rfl⟩ step
  subst f2
  have hz : zipD (iT ps) (cT cs) = some ((ps.zip cs).map fun q => PyData.tuple [.int q.1, .int (q.2 : Int)]) := congrArg some (pairUp_zip ps cs)
  have e0 : (0 + ((ps.zip cs).map fun q => PyData.tuple [.int q.1, .int (q.2 : Int)]).length) = (ps.zip cs).length := by simp
  rw [e0, List.take_length] at f1
  unfold F_lengths_used
  simp only [List.map_cons, List.map_nil, List.length_cons, List.length_nil, ss_cons, st_setL]
  show M.bnd (M.bnd (M.bnd (evE (evF PP k) _ [some (.d (iT ps)), some (.d (cT cs)), none, none, none]) _) _) _ = _
  rw [first]
  simp [hz, -List.map_map] at f1 ⊢
  rw [f1]
  simp [usedL]
end Wv

set_option Elab.async false
set_option autoImplicit false
set_option linter.all false
set_option maxRecDepth 100000
set_option maxHeartbeats 4000000
namespace Wv
open PySem PySem.W
def rooms (ps : List Int) (cs : List Nat) (many : Nat) : List Int := ((List.range (nr cs)).map fun r => loadZ (ps.zip cs) r) ++ if nr cs < many then [0] else []
def flags (reel : Int) (ps : List Int) (cs : List Nat) (many : Nat) : List Bool := (rooms ps cs many).map fun r => decide (r + at0 ps cs.length ≤ reel)
theorem e_places (k : Nat) {reel : Int} {ps : List Int} {cs : List Nat} {many : Nat} (hl : cs.length < ps.length) (hn : nr cs ≤ 1000) :
    evF PP (k + 2) 8 [.d (.int reel), .d (iT ps), .d (cT cs), .d (.int (many : Int))] = M.ret (.d (.list ((flags reel ps cs many).map .bool))) := by
  rw [evF_at (f := F_places_for) rfl rfl]
  have h1 := e_used k (Nat.le_of_lt hl) hn
  have e1 : biop .len [cT cs] = some (.int cs.length) := by unfold cT; simp
  have e2 : (usedL ps cs).length = nr cs := by simp [usedL]
  have e3 : binop .add (.list (usedL ps cs)) (if ((nr cs : Nat) : Int) < (many : Int) then .list [.int 0] else .list []) = some (.list ((rooms ps cs many).map .int)) := by
    by_cases h : nr cs < many
    · rw [if_pos (by omega), bin_add_lst (by rw [e2]; simp; omega)]
      simp [rooms, h, usedL]
    · rw [if_neg (by omega), bin_add_lst (by rw [e2]; simp; omega)]
      simp [rooms, h, usedL]
  have e4 : idxop (iT ps) (.int (cs.length : Int)) = some (.int (at0 ps cs.length)) := idx_iT' (by omega) (by omega)
  have e5 : evE (evF PP (k + 1)) (.ite (.cmp .lt (.bi .len [.v 4]) (.v 3)) (.lst [.c (.int 0)]) (.lst [])) [some (.d (.int reel)), some (.d (iT ps)), some (.d (cT cs)), some (.d (.int (many : Int))), some (.d (.list (usedL ps cs))), none, none] =
      M.ret (.d (if ((nr cs : Nat) : Int) < (many : Int) then .list [.int 0] else .list [])) := by
    by_cases h : ((nr cs : Nat) : Int) < (many : Int)
    · simp [e2, h]
    · simp [e2, h]
  unfold F_places_for
  simp only [List.map_cons, List.map_nil, List.length_cons, List.length_nil, ss_cons, st_set, ev_call, es_cons, ev_v, getS_zero, getS_succ, es_nil, bnd_ret', h1, flatOk_false, if_true, setSlot_eq, thenM_nx, ev_bin, toD_ret]
  simp only [List.replicate, Nat.reduceAdd, Nat.reduceSub, List.cons_append, List.nil_append, List.set_cons_succ, List.set_cons_zero, getS_zero, getS_succ, bnd_ret', h1, flatOk_false, if_true, thenM_nx, toD_ret]
  simp only [ss_cons, st_set, ev_bin, ev_v, getS_succ, getS_zero, toD_ret, bnd_ret']
  rw [e5]
  simp only [toD_ret, bnd_ret', e3, retD_some]
  simp [-List.map_map]
  rw [compL_el (c := PyData.int) (g := fun r => .bool (decide (r + at0 ps cs.length ≤ reel))) (rooms ps cs many) fun r hr => by simp [e1, e4]]
  simp [flags, Function.comp_def]
/-- cuts that hold so far -/
structure Val (reel : Int) (ps : List Int) (cs : List Nat) : Prop where
  nr_le : nr cs ≤ cs.length
  fit : ∀ r, loadZ (ps.zip cs) r ≤ reel
theorem load_zero {ps : List Int} {cs : List Nat} {r : Nat} (h : nr cs ≤ r) : loadZ (ps.zip cs) r = 0 := by
  unfold loadZ
  have : ∀ z : List (Int × Nat), (∀ q ∈ z, q.2 ≠ r) → (z.map fun q => if q.2 = r then q.1 else 0).sum = 0 := by
    intro z
    induction z with
    | nil => intro _; rfl
    | cons q z ih =>
      intro h
      simp [h q List.mem_cons_self, ih fun x hx => h x (List.mem_cons_of_mem _ hx)]
  refine this _ fun q hq e => ?_
  have := nr_lt (List.of_mem_zip hq).2
  omega
theorem zip_app : ∀ {ps : List Int} {cs : List Nat} {c : Nat}, cs.length < ps.length → ps.zip (cs ++ [c]) = ps.zip cs ++ [(at0 ps cs.length, c)]
  | [], _, _, h => by simp at h
  | p :: ps, [], c, h => by simp [at0]
  | p :: ps, d :: cs, c, h => by
    simp only [List.cons_append, List.zip_cons_cons, List.length_cons]
    rw [zip_app (by simpa using h)]
    have e : at0 (p :: ps) ((cs.length + 1 : Nat) : Int) = at0 ps (cs.length : Int) := by
      unfold at0
      rw [Int.toNat_natCast, Int.toNat_natCast]
      rfl
    rw [e]
theorem load_app {ps : List Int} {cs : List Nat} {c : Nat} (h : cs.length < ps.length) (r : Nat) : loadZ (ps.zip (cs ++ [c])) r = loadZ (ps.zip cs) r + if c = r then at0 ps cs.length else 0 := by
  rw [zip_app h]
  simp [loadZ]
theorem at0_mem {l : List Int} {i : Nat} (h : i < l.length) : at0 l i ∈ l := by
  unfold at0
  rw [Int.toNat_natCast]
  simp [List.getD, List.getElem?_eq_getElem h]
theorem flags_val {reel : Int} {ps : List Int} {cs : List Nat} {many i : Nat} (v : Val reel ps cs) (hl : cs.length < ps.length) (h : (flags reel ps cs many)[i]? = some true) : Val reel ps (cs ++ [i]) := by
  unfold flags rooms at h
  rw [List.getElem?_map] at h
  obtain ⟨r, hr, e⟩ := Option.map_eq_some_iff.mp h
  have e := of_decide_eq_true e
  have hi : i ≤ nr cs ∧ loadZ (ps.zip cs) i = r := by
    by_cases q : i < nr cs
    · rw [List.getElem?_append_left (by simpa using q)] at hr
      simp [List.getElem?_range q] at hr
      exact ⟨by omega, hr⟩
    · rw [List.getElem?_append_right (by simpa using q)] at hr
      simp only [List.length_map, List.length_range] at hr
      split at hr
      · have : i - nr cs = 0 := by
          by_cases z : i - nr cs = 0
          · exact z
          · rw [List.getElem?_eq_none (by simp; omega)] at hr; cases hr
        rw [this] at hr
        simp at hr
        exact ⟨by omega, by rw [load_zero (by omega)]; exact hr⟩
      · simp at hr
  refine ⟨?_, fun r' => ?_⟩
  · rw [nr_app]
    have := v.nr_le
    simp
    omega
  · rw [load_app hl]
    by_cases q : i = r'
    · subst q
      rw [if_pos rfl, hi.2]
      exact e
    · rw [if_neg q, Int.add_zero]
      exact v.fit r'
theorem flags_len (reel : Int) (ps : List Int) (cs : List Nat) (many : Nat) : (flags reel ps cs many).length ≤ nr cs + 1 := by
  unfold flags rooms
  simp
  split <;> simp
theorem flags_new {reel : Int} {ps : List Int} {cs : List Nat} {many : Nat} (hl : cs.length < ps.length) (hp : ∀ x ∈ ps, x ≤ reel) (hm : nr cs < many) : (flags reel ps cs many)[nr cs]? = some true := by
  unfold flags rooms
  rw [List.getElem?_map, List.getElem?_append_right (by simp), if_pos hm]
  have := hp _ (at0_mem hl)
  simp
  omega
theorem enum_bools : ∀ (bs : List Bool) (n : Nat), enumFrom n (bs.map .bool) = (bs.zipIdx n).map fun q => .tuple [.int (q.2 : Int), .bool q.1]
  | [], _ => rfl
  | b :: bs, n => by
    have ih := enum_bools bs (n + 1)
    simp only [List.map_cons, enumFrom, List.zipIdx_cons, ih]
def newCuts (reel : Int) (ps : List Int) (cs : List Nat) (many : Nat) : List (List Nat) := (((flags reel ps cs many).zipIdx).filter fun q => q.1).map fun q => cs ++ [q.2]
theorem newCuts_val {reel : Int} {ps : List Int} {cs cs' : List Nat} {many : Nat} (v : Val reel ps cs) (hl : cs.length < ps.length) (h : cs' ∈ newCuts reel ps cs many) : cs'.length = cs.length + 1 ∧ Val reel ps cs' := by
  unfold newCuts at h
  obtain ⟨q, hq, rfl⟩ := List.mem_map.mp h
  obtain ⟨h1, h2⟩ := List.mem_filter.mp hq
  have := List.mem_zipIdx h1
  refine ⟨by simp, flags_val v hl (many := many) ?_⟩
  have hx := List.mem_zipIdx_iff_getElem?.mp h1
  rw [hx]
  congr 1
theorem newCuts_len (reel : Int) (ps : List Int) (cs : List Nat) (many : Nat) : (newCuts reel ps cs many).length ≤ nr cs + 1 := by
  unfold newCuts
  rw [List.length_map]
  refine Nat.le_trans (List.length_filter_le _ _) ?_
  rw [List.length_zipIdx]
  exact flags_len _ _ _ _
theorem newCuts_ne {reel : Int} {ps : List Int} {cs : List Nat} {many : Nat} (hl : cs.length < ps.length) (hp : ∀ x ∈ ps, x ≤ reel) (hm : nr cs < many) : newCuts reel ps cs many ≠ [] := by
  have := flags_new hl hp hm
  intro e
  have hx : (true, nr cs) ∈ (flags reel ps cs many).zipIdx := List.mem_zipIdx_iff_getElem?.mpr this
  have : cs ++ [nr cs] ∈ newCuts reel ps cs many := List.mem_map.mpr ⟨(true, nr cs), List.mem_filter.mpr ⟨hx, rfl⟩, rfl⟩
  rw [e] at this
  cases this
end Wv

set_option Elab.async false
set_option autoImplicit false
set_option linter.all false
set_option maxRecDepth 100000
set_option maxHeartbeats 4000000
namespace Wv
open PySem PySem.W
theorem bin_add_cT {cs : List Nat} {i : Nat} (h : cs.length ≤ 1000) : binop .add (cT cs) (.tuple [.int (i : Int)]) = some (cT (cs ++ [i])) := by
  have := bin_add_tup (xs := (cs.map fun c : Nat => (c : Int)).map PyData.int) (ys := [.int (i : Int)]) (by simp; omega)
  show binop .add (.tuple ((cs.map fun c : Nat => (c : Int)).map PyData.int)) _ = _
  rw [this]
  simp [cT, iT]
/-- the row of next places -/
theorem e_next (call : Nat → List SV → M SV) (reel : Int) (ps : List Int) (cs : List Nat) (many : Nat) (h : cs.length ≤ 1000) (a b c d e f : Option SV) :
    evE call (.comp (.tup [.one 8, .one 9]) [8, 9] (.enum (.v 7)) (some (.v 9)) (.bin .add (.v 6) (.tup [.v 8]))) [a, b, c, d, e, f, some (.d (cT cs)), some (.d (.list ((flags reel ps cs many).map .bool))), none, none] =
      M.ret (.d (.list ((newCuts reel ps cs many).map cT))) := by
  have he : enumD (.list ((flags reel ps cs many).map .bool)) = some ((flags reel ps cs many).zipIdx.map fun q => .tuple [.int (q.2 : Int), .bool q.1]) := congrArg some (enum_bools _ 0)
  simp [he, -List.map_map]
  rw [compL_if (c := fun q : Bool × Nat => PyData.tuple [.int (q.2 : Int), .bool q.1]) (g := fun q => cT (cs ++ [q.2])) (p := fun q => q.1) ((flags reel ps cs many).zipIdx) fun q hq => ?_]
  · simp [newCuts, Function.comp_def]
  · obtain ⟨b, i⟩ := q
    cases b <;> simp [bin_add_cT h]
def cutsBody : List St := [.set false 7 (.call 8 [.v 0, .v 1, .v 6, .v 2]), .ext false 5 (.comp (.tup [.one 8, .one 9]) [8, 9] (.enum (.v 7)) (some (.v 9)) (.bin .add (.v 6) (.tup [.v 8])))]
/-- what the walk over pieces holds -/
structure Found (reel : Int) (ps : List Int) (j : Nat) (found : List (List Nat)) : Prop where
  ne : found ≠ []
  few : found.length ≤ 7 ^ j
  val : ∀ cs ∈ found, cs.length = j ∧ Val reel ps cs
theorem pow7 {j : Nat} (h : j ≤ 5) : 7 ^ j ≤ 16807 := Nat.pow_le_pow_right (show 7 > 0 by decide) h
theorem sz2 : 200000 ≤ sizeLine := by decide
theorem e_inner (k : Nat) {reel : Int} {ps : List Int} {j : Nat} {found : List (List Nat)} (hp : ∀ x ∈ ps, x ≤ reel) (hl : ps.length ≤ 6) (hj : j < ps.length) (F : Found reel ps j found) (pc : Option SV) (o6 o7 : Option SV) :
    ∃ longer o6' o7', Found reel ps (j + 1) longer ∧ forL (.one 6) (evSs (evF PP (k + 2)) cutsBody) (found.map cT) [some (.d (.int reel)), some (.d (iT ps)), some (.d (.int (ps.length : Int))), some (.d (.list (found.map cT))), pc, some (.d (.list [])), o6, o7, none, none] =
      M.ret (.nx [some (.d (.int reel)), some (.d (iT ps)), some (.d (.int (ps.length : Int))), some (.d (.list (found.map cT))), pc, some (.d (.list (longer.map cT))), o6', o7', none, none]) := by
  have step : ∀ (i : Nat) d, (found.map cT)[i]? = some d → ∀ ρ, (∃ longer : List (List Nat), (∃ o6 o7, ρ = [some (.d (.int reel)), some (.d (iT ps)), some (.d (.int (ps.length : Int))), some (.d (.list (found.map cT))), pc, some (.d (.list (longer.map cT))), o6, o7, none, none]) ∧
        longer.length ≤ 7 * (0 + i) ∧ (0 < 0 + i → longer ≠ []) ∧ ∀ cs ∈ longer, cs.length = j + 1 ∧ Val reel ps cs) →
      ∃ ρ1 ρ2, bindT (.one 6) d ρ = some ρ1 ∧ evSs (evF PP (k + 2)) cutsBody ρ1 = M.ret (.nx ρ2) ∧ ∃ longer : List (List Nat), (∃ o6 o7, ρ2 = [some (.d (.int reel)), some (.d (iT ps)), some (.d (.int (ps.length : Int))), some (.d (.list (found.map cT))), pc, some (.d (.list (longer.map cT))), o6, o7, none, none]) ∧
        longer.length ≤ 7 * (0 + i + 1) ∧ (0 < 0 + i + 1 → longer ≠ []) ∧ ∀ cs ∈ longer, cs.length = j + 1 ∧ Val reel ps cs := by
    intro i d hd ρ ⟨longer, ⟨o6, o7, e⟩, l1, l2, l3⟩
    subst e
    rw [List.getElem?_map] at hd
    obtain ⟨cs, hcs, rfl⟩ := Option.map_eq_some_iff.mp hd
    have hmem := List.mem_of_getElem? hcs
    obtain ⟨c1, c2⟩ := F.val cs hmem
    have hnr := c2.nr_le
    have hi : i < found.length := (List.getElem?_eq_some_iff.mp hcs).1
    have hf := F.few
    have h7 := pow7 (j := j) (by omega)
    have ep := e_places k (reel := reel) (ps := ps) (cs := cs) (many := ps.length) (by omega) (by omega)
    have en := e_next (evF PP (k + 2)) reel ps cs ps.length (by omega) (some (.d (.int reel))) (some (.d (iT ps))) (some (.d (.int (ps.length : Int)))) (some (.d (.list (found.map cT)))) pc (some (.d (.list (longer.map cT))))
    have hlen := newCuts_len reel ps cs ps.length
    have hsz : (longer.map cT).length + ((newCuts reel ps cs ps.length).map cT).length ≤ sizeLine := by
      have := sz2
      simp only [List.length_map]
      omega
    refine ⟨_, [some (.d (.int reel)), some (.d (iT ps)), some (.d (.int (ps.length : Int))), some (.d (.list (found.map cT))), pc, some (.d (.list ((longer ++ newCuts reel ps cs ps.length).map cT))), some (.d (cT cs)), some (.d (.list ((flags reel ps cs ps.length).map .bool))), none, none],
      bindT_one _ 6 _, ?_, longer ++ newCuts reel ps cs ps.length, ⟨_, _, rfl⟩, by rw [List.length_append]; omega, fun _ e => ?_, fun c hc => ?_⟩
    · unfold cutsBody
      simp only [ss_cons, st_set, ev_call, es_cons, ev_v, getS_zero, getS_succ, es_nil, bnd_ret', List.set_cons_succ, List.set_cons_zero, ep, flatOk_false, if_true, setSlot_eq, thenM_nx, st_ext, slotL_eq, listOf_list, en, toD_ret, extM_list, ss_nil, bnd_bnd]
      rw [if_pos (by simp only [Bool.true_and, decide_eq_true_eq]; exact hsz)]
      simp
    · exact newCuts_ne (reel := reel) (ps := ps) (cs := cs) (many := ps.length) (by omega) hp (by omega) (List.append_eq_nil_iff.mp e).2
    · rcases List.mem_append.mp hc with h | h
      · exact l3 c h
      · have := newCuts_val c2 (by omega) h
        rw [c1] at this
        exact this
  obtain ⟨ρ2, f1, longer, ⟨o6', o7', e⟩, l1, l2, l3⟩ := forL_ix (fun i ρ => ∃ longer : List (List Nat), (∃ o6 o7, ρ = [some (.d (.int reel)), some (.d (iT ps)), some (.d (.int (ps.length : Int))), some (.d (.list (found.map cT))), pc, some (.d (.list (longer.map cT))), o6, o7, none, none]) ∧
        longer.length ≤ 7 * i ∧ (0 < i → longer ≠ []) ∧ ∀ cs ∈ longer, cs.length = j + 1 ∧ Val reel ps cs) (found.map cT) 0 _ ⟨[], ⟨o6, o7, rfl⟩, by simp, by simp, by simp⟩ step
  subst e
  have hne := List.length_pos_iff.mpr F.ne
  simp only [List.length_map, Nat.zero_add] at l1 l2
  refine ⟨longer, o6', o7', ⟨l2 hne, ?_, l3⟩, f1⟩
  have := F.few
  rw [Nat.pow_succ]
  omega
end Wv

set_option Elab.async false
set_option autoImplicit false
set_option linter.all false
set_option maxRecDepth 100000
set_option maxHeartbeats 4000000
namespace Wv
open PySem PySem.W
theorem e_all_cuts (k : Nat) {reel : Int} {ps : List Int} (hp : ∀ x ∈ ps, x ≤ reel) (h0 : 0 ≤ reel) (hl : ps.length ≤ 6) :
    ∃ found, Found reel ps ps.length found ∧ evF PP (k + 3) 9 [.d (.int reel), .d (iT ps), .d (.int (ps.length : Int))] = M.ret (.d (.list (found.map cT))) := by
  have step : ∀ (i : Nat) d, (ps.map PyData.int)[i]? = some d → ∀ ρ, (∃ found o4 o5 o6 o7, Found reel ps (0 + i) found ∧ ρ = [some (.d (.int reel)), some (.d (iT ps)), some (.d (.int (ps.length : Int))), some (.d (.list (found.map cT))), o4, o5, o6, o7, none, none]) →
      ∃ ρ1 ρ2, bindT (.one 4) d ρ = some ρ1 ∧ evSs (evF PP (k + 2)) [.setL 5 (.lst []), .for_ (.one 6) (.ex (.v 3)) cutsBody, .move 3 5] ρ1 = M.ret (.nx ρ2) ∧
        ∃ found o4 o5 o6 o7, Found reel ps (0 + i + 1) found ∧ ρ2 = [some (.d (.int reel)), some (.d (iT ps)), some (.d (.int (ps.length : Int))), some (.d (.list (found.map cT))), o4, o5, o6, o7, none, none] := by
    intro i d hd ρ ⟨found, o4, o5, o6, o7, F, e⟩
    subst e
    rw [Nat.zero_add] at F ⊢
    rw [List.getElem?_map] at hd
    obtain ⟨p, hpi, rfl⟩ := Option.map_eq_some_iff.mp hd
    have hi : i < ps.length := (List.getElem?_eq_some_iff.mp hpi).1
    obtain ⟨longer, o6', o7', F', f1⟩ := e_inner k hp hl hi F (some (.d (.int p))) o6 o7
    refine ⟨_, [some (.d (.int reel)), some (.d (iT ps)), some (.d (.int (ps.length : Int))), some (.d (.list (longer.map cT))), some (.d (.int p)), none, o6', o7', none, none], bindT_one _ 4 _, ?_, longer, _, _, _, _, F', rfl⟩
    simp only [ss_cons, st_setL, ev_lst, ed_nil, bnd_ret', listOf_list, setSlot_eq, thenM_nx, st_for, ei_ex, ev_v, getS_zero, getS_succ, toD_ret, seqD_list, lift_some, List.set_cons_succ, List.set_cons_zero, bnd_bnd]
    rw [f1]
    simp
  obtain ⟨ρ2, f1, found, o4, o5, o6, o7, F, e⟩ := forL_ix (fun i ρ => ∃ found o4 o5 o6 o7, Found reel ps i found ∧ ρ = [some (.d (.int reel)), some (.d (iT ps)), some (.d (.int (ps.length : Int))), some (.d (.list (found.map cT))), o4, o5, o6, o7, none, none]) (ps.map PyData.int) 0
    [some (.d (.int reel)), some (.d (iT ps)), some (.d (.int (ps.length : Int))), some (.d (.list [cT []])), none, none, none, none, none, none]
    ⟨[[]], none, none, none, none, ⟨by simp, by simp, fun cs h => by simp at h; subst h; exact ⟨rfl, by simp [nr], fun r => by simp [loadZ]; exact h0⟩⟩, rfl⟩ step
  subst e
  simp only [List.length_map, Nat.zero_add] at F
  refine ⟨found, F, ?_⟩
  rw [evF_at (f := F_all_cuts) rfl rfl]
  unfold F_all_cuts
  show M.bnd (evSs (evF PP (k + 2)) [.set false 3 (.lst [.tup []]), .for_ (.one 4) (.ex (.v 1)) [.setL 5 (.lst []), .for_ (.one 6) (.ex (.v 3)) cutsBody, .move 3 5], .ret (.v 3)] _) endF = _
  simp only [ss_cons, st_set, ev_lst, ed_cons, ev_tup, ed_nil, bnd_ret', toD_ret, flatOk_false, if_true, setSlot_eq, thenM_nx, st_for, ei_ex, ev_v, seqD_iT, lift_some, bnd_bnd, List.map_cons, List.map_nil, List.length_cons, List.length_nil, List.replicate, Nat.reduceAdd, Nat.reduceSub, List.cons_append, List.nil_append, List.set_cons_succ, List.set_cons_zero, getS_zero, getS_succ]
  have f1 : forL (.one 4) (evSs (evF PP (k + 2)) [.setL 5 (.lst []), .for_ (.one 6) (.ex (.v 3)) cutsBody, .move 3 5]) (ps.map PyData.int) [some (.d (.int reel)), some (.d (iT ps)), some (.d (.int (ps.length : Int))), some (.d (.list [.tuple []])), none, none, none, none, none, none] = _ := f1
  rw [f1]
  simp
theorem e_best_cuts (k : Nat) {reel : Int} {ps : List Int} (hp : ∀ x ∈ ps, x ≤ reel) (h0 : 0 ≤ reel) (hl : ps.length ≤ 6) (h1 : 1 ≤ ps.length) :
    ∃ cs, cs.length = ps.length ∧ Val reel ps cs ∧ evF PP (k + 4) 10 [.d (.int reel), .d (iT ps), .d (.int (ps.length : Int))] = M.ret (.d (cT cs)) := by
  obtain ⟨found, F, e⟩ := e_all_cuts k hp h0 hl
  obtain ⟨x, xs, hx⟩ : ∃ x xs, found = x :: xs := by
    cases found with
    | nil => exact absurd rfl F.ne
    | cons x xs => exact ⟨x, xs, rfl⟩
  obtain ⟨y, hy, m1, m2⟩ := bi_min_pairs (fun cs : List Nat => ((nr cs : Nat) : Int) - 1) (fun cs => cs.map fun c : Nat => (c : Int)) x xs
  rw [← hx] at hy m1 m2
  obtain ⟨c1, c2⟩ := F.val y hy
  refine ⟨y, c1, c2, ?_⟩
  have hpos : 0 < found.length := List.length_pos_iff.mpr F.ne
  rw [evF_at (f := F_best_cuts) rfl rfl]
  simp [F_best_cuts, e]
  rw [compL_el (c := cT) (g := fun cs => pairT (((nr cs : Nat) : Int) - 1) (cs.map fun c : Nat => (c : Int))) found fun cs hc => ?_]
  · simp [m1, idx_pair1, hpos]
    rfl
  · have hne : cs ≠ [] := fun z => by
      have := (F.val cs hc).1
      rw [z] at this
      simp at this
      omega
    simp [bi_max_cT hne]
    rfl
theorem e_fewest (k : Nat) {reel : Int} {ps : List Int} (g : GoodP reel ps) : ∃ cs, cs.length = ps.length ∧ Val reel ps cs ∧ evF PP (k + 5) 19 [.d (.int reel), .d (iT ps)] = M.ret (.d (.int ((nr cs : Nat) : Int))) := by
  have r1 := g.r1
  obtain ⟨cs, c1, c2, e⟩ := e_best_cuts k (reel := reel) (ps := ps) (fun x hx => (g.p x hx).2) (by omega) g.l2 g.l1
  refine ⟨cs, c1, c2, ?_⟩
  have hne : cs ≠ [] := fun z => by
    have := g.l1
    rw [z] at c1
    simp at c1
    omega
  rw [evF_at (f := F_fewest_reels) rfl rfl]
  simp [F_fewest_reels, e_check_pieces k g, e, bi_max_cT hne]
/-! ### as many reels at least -/
theorem sum_loads : ∀ (z : List (Int × Nat)) (R : Nat), (∀ q ∈ z, q.2 < R) → ((List.range R).map (loadZ z)).sum = (z.map (·.1)).sum
  | [], R, h => by
    have : (List.range R).map (loadZ []) = (List.range R).map fun _ => (0 : Int) := List.map_congr_left fun r _ => rfl
    rw [this]
    show ((List.range R).map fun _ => (0 : Int)).sum = 0
    clear this h
    induction R with
    | zero => rfl
    | succ n ih => rw [List.range_succ, List.map_append, List.sum_append, ih]; rfl
  | q :: z, R, h => by
    have ih := sum_loads z R fun x hx => h x (List.mem_cons_of_mem _ hx)
    have e : (List.range R).map (loadZ (q :: z)) = (List.range R).map fun r => (if q.2 = r then q.1 else 0) + loadZ z r := List.map_congr_left fun r _ => rfl
    have hq := h q List.mem_cons_self
    have key : ∀ n, ((List.range n).map fun r => (if q.2 = r then q.1 else 0) + loadZ z r).sum = (if q.2 < n then q.1 else 0) + ((List.range n).map (loadZ z)).sum := by
      intro n
      induction n with
      | zero => simp
      | succ n ih =>
        rw [List.range_succ, List.map_append, List.map_append, List.sum_append, List.sum_append, ih]
        simp only [List.map_cons, List.map_nil, List.sum_cons, List.sum_nil]
        by_cases a : q.2 < n
        · rw [if_pos a, if_neg (by omega), if_pos (by omega)]; omega
        · by_cases b : q.2 = n
          · rw [if_neg a, if_pos b, if_pos (by omega)]; omega
          · rw [if_neg a, if_neg b, if_neg (by omega)]; omega
    rw [e, key, if_pos hq, ih]
    simp
def lotOf (cs : List Nat) (r : Nat) : List Int := ((List.range cs.length).filter fun i => cs.getD i 0 == r).map fun i : Nat => (i : Int)
theorem lot_filter (p : Nat → Bool) : ∀ n, ((List.range n).filter p).map (fun i : Nat => (i : Int)) ∈ lotsU n
  | 0 => by simp [lotsU]
  | n + 1 => by
    have ih := lot_filter p n
    rw [List.range_succ, List.filter_append, List.map_append]
    simp only [lotsU, List.mem_append, List.mem_map]
    cases q : p n with
    | true =>
      refine .inr ⟨_, ih, ?_⟩
      simp [q]
    | false =>
      refine .inl ?_
      simp [q]
      exact ih
theorem pk_lot : ∀ (n : Nat) (ws : List Int) (cs : List Nat), n ≤ ws.length → n ≤ cs.length → ∀ r, pk ws (((List.range n).filter fun i => cs.getD i 0 == r).map fun i : Nat => (i : Int)) = loadZ ((ws.zip cs).take n) r
  | 0, ws, cs, _, _, r => by simp [pk, loadZ]
  | n + 1, ws, cs, h1, h2, r => by
    have ih := pk_lot n ws cs (by omega) (by omega) r
    have hz : (ws.zip cs)[n]? = some (at0 ws n, cs.getD n 0) := by
      rw [List.getElem?_zip_eq_some]
      refine ⟨?_, ?_⟩
      · unfold at0
        rw [Int.toNat_natCast]
        simp [List.getD, List.getElem?_eq_getElem (show n < ws.length by omega)]
      · simp [List.getD, List.getElem?_eq_getElem (show n < cs.length by omega)]
    rw [load_take hz, ← ih, List.range_succ, List.filter_append, List.map_append]
    unfold pk
    rw [List.map_append, List.sum_append]
    congr 1
    by_cases q : cs.getD n 0 = r
    · have hb : (fun i => cs.getD i 0 == r) n = true := by simpa using q
      rw [List.filter_cons_of_pos (p := fun i => cs.getD i 0 == r) (a := n) (l := []) hb, if_pos q]
      simp
    · have hb : ¬ (fun i => cs.getD i 0 == r) n = true := by simpa using q
      rw [List.filter_cons_of_neg (p := fun i => cs.getD i 0 == r) (a := n) (l := []) hb, if_neg q]
      simp
theorem barred_lt {reel : Int} {ps ws : List Int} {cs : List Nat} {fair : Int} (hl : ws.length = ps.length) (hc : cs.length = ps.length) (h1 : 1 ≤ ps.length) (v : Val reel ps cs) (hf : fairB reel ps ws fair = true) (hp : 1 ≤ fair) :
    barredBy ws fair < (nr cs : Nat) := by
  have hpos : 1 ≤ nr cs := by
    cases cs with
    | nil => simp at hc; omega
    | cons c cs => simp [nr]; omega
  have lots : ∀ r, loadZ (ws.zip cs) r ≤ fair := fun r => by
    have e1 := pk_lot cs.length ws cs (by omega) (Nat.le_refl _) r
    have e2 := pk_lot cs.length ps cs (by omega) (Nat.le_refl _) r
    rw [List.take_of_length_le (by simp; omega)] at e1 e2
    rw [← e1]
    refine fair_iff.mp hf _ ?_ ?_
    · rw [← hc]
      exact lot_filter _ _
    · rw [e2]
      exact v.fit r
  have tot := sum_loads (ws.zip cs) (nr cs) fun q hq => nr_lt (List.of_mem_zip hq).2
  have e3 : (ws.zip cs).map (·.1) = ws := by
    rw [List.map_fst_zip (by omega)]
  rw [e3] at tot
  have bound : ∀ n, ((List.range n).map (loadZ (ws.zip cs))).sum ≤ (n : Int) * fair := by
    intro n
    induction n with
    | zero => simp
    | succ n ih =>
      rw [List.range_succ, List.map_append, List.sum_append]
      have := lots n
      simp only [List.map_cons, List.map_nil, List.sum_cons, List.sum_nil]
      rw [show ((n + 1 : Nat) : Int) * fair = (n : Int) * fair + fair by rw [Int.natCast_add, Int.add_mul]; simp]
      omega
  have hb := bound (nr cs)
  rw [tot] at hb
  have hd : (ws.sum + fair - 1) / fair ≤ (nr cs : Int) := by
    have : (ws.sum + fair - 1) / fair < (nr cs : Int) + 1 := by
      refine Int.ediv_lt_of_lt_mul (by omega) ?_
      rw [Int.add_mul]
      omega
    omega
  unfold barredBy
  split <;> omega
end Wv

set_option Elab.async false
set_option autoImplicit false
set_option linter.all false
set_option maxRecDepth 100000
set_option maxHeartbeats 4000000
namespace Wv
open PySem PySem.W
/-! ### the first of the greatest -/
section
variable {α : Type} (w : α → Int) (p : α → Bool)
def better (best : Option α) (a : α) : Option α := match best with
  | none => if p a = true then some a else none
  | some b => if w b < w a ∧ p a = true then some a else some b
def FirstMax (R : α → α → Prop) (P : List α) : Option α → Prop
  | none => ∀ a ∈ P, p a = false
  | some b => b ∈ P ∧ p b = true ∧ ∀ a ∈ P, p a = true → w a ≤ w b ∧ (w a = w b → a = b ∨ R b a)
variable {w p}
theorem first_max (R : α → α → Prop) : ∀ (l P : List α) (best : Option α), (P ++ l).Pairwise R → FirstMax w p R P best → FirstMax w p R (P ++ l) (l.foldl (better w p) best)
  | [], P, best, _, h => by simpa using h
  | x :: l, P, best, hp, h => by
    have e : P ++ x :: l = (P ++ [x]) ++ l := by simp
    rw [e] at hp ⊢
    refine first_max R l (P ++ [x]) (better w p best x) hp ?_
    have hx : ∀ b ∈ P, R b x := fun b hb => by
      have := (List.pairwise_append.mp hp).1
      exact (List.pairwise_append.mp this).2.2 b hb x List.mem_cons_self
    cases best with
    | none =>
      have h : ∀ a ∈ P, p a = false := h
      show FirstMax w p R (P ++ [x]) (if p x = true then some x else none)
      by_cases q : p x = true
      · rw [if_pos q]
        refine ⟨by simp, q, fun a ha hpa => ?_⟩
        rcases List.mem_append.mp ha with z | z
        · rw [h a z] at hpa; cases hpa
        · simp at z; subst z; exact ⟨Int.le_refl _, fun _ => .inl rfl⟩
      · rw [if_neg q]
        intro a ha
        rcases List.mem_append.mp ha with z | z
        · exact h a z
        · simp at z; subst z; simpa using q
    | some b =>
      obtain ⟨h1, h2, h3⟩ : b ∈ P ∧ p b = true ∧ ∀ a ∈ P, p a = true → w a ≤ w b ∧ (w a = w b → a = b ∨ R b a) := h
      show FirstMax w p R (P ++ [x]) (if w b < w x ∧ p x = true then some x else some b)
      by_cases q : w b < w x ∧ p x = true
      · rw [if_pos q]
        refine ⟨by simp, q.2, fun a ha hpa => ?_⟩
        rcases List.mem_append.mp ha with z | z
        · have := (h3 a z hpa).1
          exact ⟨by omega, fun e => by omega⟩
        · simp at z; subst z; exact ⟨Int.le_refl _, fun _ => .inl rfl⟩
      · rw [if_neg q]
        refine ⟨List.mem_append_left _ h1, h2, fun a ha hpa => ?_⟩
        rcases List.mem_append.mp ha with z | z
        · exact h3 a z hpa
        · simp at z; subst z
          have : ¬ w b < w a := fun c => q ⟨c, hpa⟩
          exact ⟨by omega, fun _ => .inr (hx b h1)⟩
end
/-! ### the law's lots -/
theorem dl_iT (l m : List Int) : dataLt (iT l) (iT m) = decide (l < m) := dataLt_ints l m
theorem e_sorted_lots (n : Nat) : ∃ ls : List (List Int), ls.Perm (lotsU n) ∧ ls.Pairwise (fun a b => dataLt (iT b) (iT a) = false) ∧ biop .sorted [.list ((lotsU n).map iT)] = some (.list (ls.map iT)) := by
  refine ⟨(lotsU n).mergeSort fun a b => PySem.W.dataLe false (fun d => d) (iT a) (iT b), List.mergeSort_perm _ _, ?_, ?_⟩
  · have e : ∀ a b : List Int, PySem.W.dataLe false (fun d => d) (iT a) (iT b) = !dataLt (iT b) (iT a) := fun a b => rfl
    have h := List.pairwise_mergeSort (le := fun a b : List Int => PySem.W.dataLe false (fun d => d) (iT a) (iT b)) (fun a b c h1 h2 => ?_) (fun a b => ?_) (lotsU n)
    · exact h.imp fun {a b} h => by
        rw [e] at h
        simpa using h
    · rw [e] at h1 h2 ⊢
      simp only [Bool.not_eq_true'] at h1 h2 ⊢
      cases q : dataLt (iT c) (iT a) with
      | false => rfl
      | true =>
        rcases dl_neg (iT b) q with z | z
        · rw [h2] at z; cases z
        · rw [h1] at z; cases z
    · rw [e, e]
      cases q : dataLt (iT b) (iT a) with
      | false => rfl
      | true =>
        cases q2 : dataLt (iT a) (iT b) with
        | false => rfl
        | true =>
          have := dl_trans q q2
          rw [dl_irrefl] at this
          cases this
  · show (if alikeAllB _ && depthOk _ && sortableB _ then some (PyData.list (sortD _)) else none) = _
    rw [if_pos]
    · unfold sortD
      rw [(List.map_mergeSort (f := iT) (r := fun a b => PySem.W.dataLe false (fun d => d) (iT a) (iT b)) (s := PySem.W.dataLe false fun d => d) (l := lotsU n) (fun a _ b _ => rfl)).symm]
    · rw [alikeAllB_ok, depthOk_ok]
      · simp only [Bool.true_and]
        unfold sortableB
        have h0 : isTup0 ((lotsU n).map iT) = true := by
          have : ∀ n, ∃ r, lotsU n = [] :: r := by
            intro n
            induction n with
            | zero => exact ⟨_, rfl⟩
            | succ n ih => obtain ⟨r, e⟩ := ih; exact ⟨_, by simp only [lotsU, e]; rfl⟩
          obtain ⟨r, e⟩ := this n
          rw [e]
          rfl
        have h1 : ((lotsU n).map iT).all isTup = true := by
          rw [List.all_eq_true]
          intro x hx
          obtain ⟨y, _, rfl⟩ := List.mem_map.mp hx
          rfl
        rw [h0, h1]
        simp
      · intro d hd
        obtain ⟨y, _, rfl⟩ := List.mem_map.mp hd
        rw [depth_iT]
        omega
      · intro x hx
        obtain ⟨y, _, rfl⟩ := List.mem_map.mp hx
        refine ⟨rfl, fun z hz => ?_⟩
        obtain ⟨w, _, rfl⟩ := List.mem_map.mp hz
        exact alike_iT _ _
end Wv

set_option Elab.async false
set_option autoImplicit false
set_option linter.all false
set_option maxRecDepth 100000
set_option maxHeartbeats 4000000
namespace Wv
open PySem PySem.W
theorem e_law_lots (k n : Nat) (hn : n ≤ 6) : ∃ ls : List (List Int), ls.Perm (lotsU n) ∧ ls.Pairwise (fun a b => dataLt (iT b) (iT a) = false) ∧ evF PP (k + 1) 24 [.d (.int (n : Int))] = M.ret (.d (.list (ls.map iT))) := by
  obtain ⟨ls, h1, h2, h3⟩ := e_sorted_lots n
  refine ⟨ls, h1, h2, ?_⟩
  have step : ∀ (i : Nat) d, ((List.range n).map fun i : Nat => PyData.int (i : Int))[i]? = some d → ∀ ρ, (∃ o, ρ = [some (.d (.int (n : Int))), some (.d (.list ((lotsU (0 + i)).map iT))), o, none]) →
      ∃ ρ1 ρ2, bindT (.one 2) d ρ = some ρ1 ∧ evSs (evF PP k) [.set false 1 (.bin .add (.v 1) (.comp (.one 3) [3] (.ex (.v 1)) none (.bin .add (.v 3) (.tup [.v 2]))))] ρ1 = M.ret (.nx ρ2) ∧ ∃ o, ρ2 = [some (.d (.int (n : Int))), some (.d (.list ((lotsU (0 + i + 1)).map iT))), o, none] := by
    intro i d hd ρ ⟨o, e⟩
    subst e
    rw [Nat.zero_add]
    rw [List.getElem?_map] at hd
    have hi : i < n := by
      by_cases h : i < n
      · exact h
      · rw [List.getElem?_eq_none (by simp; omega)] at hd; cases hd
    rw [List.getElem?_range hi] at hd
    cases hd
    refine ⟨_, [some (.d (.int (n : Int))), some (.d (.list ((lotsU (i + 1)).map iT))), some (.d (.int (i : Int))), none], bindT_one _ 2 _, ?_, _, rfl⟩
    simp
    rw [compL_el (c := iT) (g := fun l => iT (l ++ [(i : Int)])) (lotsU i) fun l hl => ?_]
    · simp only [bnd_ret', retD_some, lift_some]
      rw [bin_add_lst (by simp [lotsU_len]; have := pow_le (n := i) (by omega); omega)]
      simp [lotsU, Function.comp_def]
    · have := (lotsU_in hl).1
      simp [iT]
      rw [bin_add_tup (by simp; omega)]
      simp
  obtain ⟨ρ2, f1, o, e⟩ := forL_ix (fun i ρ => ∃ o, ρ = [some (.d (.int (n : Int))), some (.d (.list ((lotsU i).map iT))), o, none]) ((List.range n).map fun i : Nat => PyData.int (i : Int)) 0 [some (.d (.int (n : Int))), some (.d (.list [iT []])), none, none] ⟨none, rfl⟩ step
  subst e
  simp only [List.length_map, List.length_range, Nat.zero_add] at f1
  rw [evF_at (f := F_law_lots_of) rfl rfl]
  simp [F_law_lots_of, range_nat (n := n) (by omega)] at f1 ⊢
  rw [show (PyData.tuple [] : PyData) = iT [] from rfl, f1]
  simp [h3]
theorem e_law_fitting (k : Nat) (reel : Int) (ps : List Int) (h : ps.length ≤ 6) : ∃ ls : List (List Int), (∀ l, l ∈ ls ↔ l ∈ lotsU ps.length ∧ pk ps l ≤ reel) ∧ ls.Pairwise (fun a b => dataLt (iT b) (iT a) = false) ∧ evF PP (k + 2) 25 [.d (.int reel), .d (iT ps)] = M.ret (.d (.list (ls.map iT))) := by
  obtain ⟨ls, h1, h2, h3⟩ := e_law_lots k ps.length h
  refine ⟨ls.filter fun l => decide (pk ps l ≤ reel), fun l => by rw [List.mem_filter, h1.mem_iff]; simp, h2.filter _, ?_⟩
  rw [evF_at (f := F_law_fitting) rfl rfl]
  simp [F_law_fitting, h3]
  rw [compL_if (c := iT) (g := iT) (p := fun l => decide (pk ps l ≤ reel)) ls fun l hl => ?_]
  · simp
  · simp
    rw [items_at (ws := ps) (fun i hi => by have := (lotsU_in (h1.mem_iff.mp hl)).2 i hi; omega) fun i i0 i1 => by simp [idx_iT' i0 i1]]
    by_cases q : (l.map (at0 ps)).sum ≤ reel <;> simp [pk, q]
theorem cmp_is (d e : PyData) : cmpop .is_ d e = isOp d e := rfl
def encB (w : List Int → Int) : Option (List Int) → PyData
  | none => .none
  | some l => pairT (w l) l
theorem e_law_heaviest (k : Nat) {reel : Int} {ps ws : List Int} (h : ps.length ≤ 6) (h0 : 0 ≤ reel) (hw : ws.length = ps.length) : ∃ L, IsHeavy reel ps ws L ∧ evF PP (k + 3) 26 [.d (.int reel), .d (iT ps), .d (iT ws)] = M.ret (.d (pairT (pk ws L) L)) := by
  obtain ⟨ls, h1, h2, h3⟩ := e_law_fitting k reel ps h
  let bst : Nat → Option (List Int) := fun i => (ls.take i).foldl (better (pk ws) fun _ => true) none
  have step : ∀ (i : Nat) d, (ls.map iT)[i]? = some d → ∀ ρ, (∃ o4 o5, ρ = [some (.d (.int reel)), some (.d (iT ps)), some (.d (iT ws)), some (.d (encB (pk ws) (bst (0 + i)))), o4, o5, none]) →
      ∃ ρ1 ρ2, bindT (.one 4) d ρ = some ρ1 ∧ evSs (evF PP (k + 2)) [.set false 5 (.bi .sum [.comp (.one 6) [6] (.ex (.v 4)) none (.idx (.v 2) (.v 6))]), .set false 3 (.ite (.or (.cmp .is_ (.v 3) (.c .none)) (.cmp .gt (.v 5) (.idx (.v 3) (.c (.int 0))))) (.tup [.v 5, .v 4]) (.v 3))] ρ1 = M.ret (.nx ρ2) ∧
        ∃ o4 o5, ρ2 = [some (.d (.int reel)), some (.d (iT ps)), some (.d (iT ws)), some (.d (encB (pk ws) (bst (0 + i + 1)))), o4, o5, none] := by
    intro i d hd ρ ⟨o4, o5, e⟩
    subst e
    rw [Nat.zero_add]
    rw [List.getElem?_map] at hd
    obtain ⟨l, hl, rfl⟩ := Option.map_eq_some_iff.mp hd
    have hmem := List.mem_of_getElem? hl
    have hb : bst (i + 1) = better (pk ws) (fun _ => true) (bst i) l := by
      show (ls.take (i + 1)).foldl _ none = _
      rw [List.take_add_one, hl, List.foldl_append]
      rfl
    have hin : ∀ x ∈ l, 0 ≤ x ∧ x < ws.length := fun x hx => by
      have := (lotsU_in ((h1 l).mp hmem).1).2 x hx
      omega
    refine ⟨_, [some (.d (.int reel)), some (.d (iT ps)), some (.d (iT ws)), some (.d (encB (pk ws) (bst (i + 1)))), some (.d (iT l)), some (.d (.int (pk ws l))), none], bindT_one _ 4 _, ?_, _, _, rfl⟩
    rw [hb]
    cases bst i with
    | none =>
      simp [encB]
      rw [items_at (ws := ws) hin fun i i0 i1 => by simp [idx_iT' i0 i1]]
      simp [cmp_is, isOp, better, encB]
      rfl
    | some b =>
      simp [encB]
      rw [items_at (ws := ws) hin fun i i0 i1 => by simp [idx_iT' i0 i1]]
      have e1 : isOp (pairT (pk ws b) b) .none = some false := rfl
      have e2 : (l.map (at0 ws)).sum = pk ws l := rfl
      by_cases q : pk ws b < pk ws l
      · simp [cmp_is, e1, e2, idx_pair0, better, q, encB]
        rfl
      · simp [cmp_is, e1, e2, idx_pair0, better, q, encB]
  obtain ⟨ρ2, f1, o4, o5, e⟩ := forL_ix (fun i ρ => ∃ o4 o5, ρ = [some (.d (.int reel)), some (.d (iT ps)), some (.d (iT ws)), some (.d (encB (pk ws) (bst i))), o4, o5, none]) (ls.map iT) 0 [some (.d (.int reel)), some (.d (iT ps)), some (.d (iT ws)), some (.d .none), none, none, none] ⟨none, none, rfl⟩ step
  subst e
  have hfm := first_max (w := pk ws) (p := fun _ => true) (fun a b => dataLt (iT b) (iT a) = false) ls [] none (by simpa using h2) (fun a ha => nomatch ha)
  have hb : bst (0 + (ls.map iT).length) = ls.foldl (better (pk ws) fun _ => true) none := by
    show (ls.take _).foldl _ none = _
    rw [Nat.zero_add, List.length_map, List.take_length]
  rw [hb] at f1
  have hne : ([] : List Int) ∈ ls := (h1 []).mpr ⟨nil_lot _, by simp [pk]; omega⟩
  generalize hB : ls.foldl (better (pk ws) fun _ => true) none = B at *
  cases B with
  | none =>
    have := hfm [] (by simpa using hne)
    cases this
  | some L =>
    obtain ⟨a1, a2, a3⟩ := hfm
    simp only [List.nil_append] at a1 a3
    refine ⟨L, ⟨((h1 L).mp a1).1, ((h1 L).mp a1).2, fun l hl hf => (a3 l ((h1 l).mpr ⟨hl, hf⟩) (by trivial)).1, fun l hl hf he => ?_⟩, ?_⟩
    · rcases (a3 l ((h1 l).mpr ⟨hl, hf⟩) (by trivial)).2 he with rfl | z
      · exact dl_irrefl _
      · exact z
    · rw [evF_at (f := F_law_heaviest) rfl rfl]
      simp [F_law_heaviest, h3] at f1 ⊢
      rw [f1]
      simp [encB]
end Wv

set_option Elab.async false
set_option autoImplicit false
set_option linter.all false
set_option maxRecDepth 100000
set_option maxHeartbeats 4000000
namespace Wv
open PySem PySem.W
/-! ### rows of weights -/
def rowNext (m : Nat) (row : List Int) : List (List Int) := (List.range (m + 1)).map fun w : Nat => row ++ [(w : Int)]
def rowsU (m : Nat) : Nat → List (List Int)
  | 0 => [[]]
  | n + 1 => (rowsU m n).flatMap (rowNext m)
theorem rowsU_in {m : Nat} : ∀ {n : Nat} {r : List Int}, r ∈ rowsU m n → r.length = n ∧ ∀ x ∈ r, 0 ≤ x ∧ x ≤ m
  | 0, r, h => by simp [rowsU] at h; subst h; simp
  | n + 1, r, h => by
    obtain ⟨r', h1, h2⟩ := List.mem_flatMap.mp h
    obtain ⟨w, hw, rfl⟩ := List.mem_map.mp h2
    obtain ⟨a, b⟩ := rowsU_in h1
    rw [List.mem_range] at hw
    refine ⟨by simp [a], fun x hx => ?_⟩
    rcases List.mem_append.mp hx with q | q
    · exact b x q
    · simp at q; omega
theorem rowsU_len (m : Nat) : ∀ n, (rowsU m n).length = (m + 1) ^ n
  | 0 => rfl
  | n + 1 => by
    show ((rowsU m n).flatMap (rowNext m)).length = _
    rw [List.length_flatMap]
    have : (rowsU m n).map (fun r => (rowNext m r).length) = (rowsU m n).map fun _ => m + 1 := List.map_congr_left fun r _ => by simp [rowNext]
    rw [this]
    have e : ∀ l : List (List Int), (l.map fun _ => m + 1).sum = l.length * (m + 1) := by
      intro l
      induction l with
      | nil => simp
      | cons a l ih => simp [ih, Nat.add_mul]; omega
    rw [e, rowsU_len m n, Nat.pow_succ]
theorem zero_row (m : Nat) : ∀ n, List.replicate n (0 : Int) ∈ rowsU m n
  | 0 => by simp [rowsU]
  | n + 1 => by
    refine List.mem_flatMap.mpr ⟨_, zero_row m n, List.mem_map.mpr ⟨0, by simp, ?_⟩⟩
    rw [List.replicate_succ']
    rfl
theorem lt_app : ∀ {a b : List Int} {x y : List Int}, a.length = b.length → a < b → a ++ x < b ++ y
  | [], [], _, _, _, h => by simp at h
  | a :: as, b :: bs, x, y, hl, h => by
    rw [List.cons_lt_cons_iff] at h
    show a :: (as ++ x) < b :: (bs ++ y)
    rw [List.cons_lt_cons_iff]
    rcases h with h | ⟨h1, h2⟩
    · exact .inl h
    · exact .inr ⟨h1, lt_app (by simpa using hl) h2⟩
  | [], _ :: _, _, _, hl, _ => by simp at hl
  | _ :: _, [], _, _, hl, _ => by simp at hl
theorem lt_same {a : List Int} {x y : Int} (h : x < y) : a ++ [x] < a ++ [y] := by
  induction a with
  | nil =>
    show [x] < [y]
    rw [List.cons_lt_cons_iff]
    exact .inl h
  | cons c a ih =>
    show c :: (a ++ [x]) < c :: (a ++ [y])
    rw [List.cons_lt_cons_iff]
    exact .inr ⟨rfl, ih⟩
theorem rowsU_sorted (m : Nat) : ∀ n, (rowsU m n).Pairwise (fun a b : List Int => a < b)
  | 0 => by simp [rowsU]
  | n + 1 => by
    have ih := rowsU_sorted m n
    show ((rowsU m n).flatMap (rowNext m)).Pairwise _
    rw [List.pairwise_flatMap]
    refine ⟨fun r hr => ?_, ?_⟩
    · unfold rowNext
      rw [List.pairwise_map]
      exact List.pairwise_lt_range.imp fun {a b} h => lt_same (by omega)
    · refine List.Pairwise.imp_of_mem (fun {a b} ha hb h x hx y hy => ?_) ih
      obtain ⟨w, _, rfl⟩ := List.mem_map.mp hx
      obtain ⟨v, _, rfl⟩ := List.mem_map.mp hy
      exact lt_app (by rw [(rowsU_in ha).1, (rowsU_in hb).1]) h
theorem rows_dl {m n : Nat} : (rowsU m n).Pairwise (fun a b => dataLt (iT b) (iT a) = false) := (rowsU_sorted m n).imp fun {a b} h => by
  rw [dl_iT]
  exact decide_eq_false (List.lt_asymm h)
theorem pow4 {m n : Nat} (hm : m ≤ 3) (hn : n ≤ 5) : (m + 1) ^ n ≤ 1024 :=
  Nat.le_trans (Nat.pow_le_pow_left (show m + 1 ≤ 4 by omega) n) (Nat.pow_le_pow_right (show 4 > 0 by decide) hn)
structure IsBest (reel : Int) (ps : List Int) (m : Nat) (row : List Int) : Prop where
  mem : row ∈ rowsU m ps.length
  fair : fairB reel ps row m = true
  max : ∀ r ∈ rowsU m ps.length, fairB reel ps r m = true → r.sum ≤ row.sum
  first : ∀ r ∈ rowsU m ps.length, fairB reel ps r m = true → r.sum = row.sum → dataLt (iT r) (iT row) = false
theorem IsBest.uniq {reel : Int} {ps : List Int} {m : Nat} {r r' : List Int} (h : IsBest reel ps m r) (h' : IsBest reel ps m r') : r = r' := by
  have e : r.sum = r'.sum := by
    have a := h.max r' h'.mem h'.fair
    have b := h'.max r h.mem h.fair
    omega
  exact toks_iT (dl_total (h'.first r h.mem h.fair e) (h.first r' h'.mem h'.fair e.symm))
theorem zero_fair (reel : Int) (ps : List Int) (m : Nat) : fairB reel ps (List.replicate ps.length 0) m = true := by
  rw [fair_iff]
  intro l hl hpk
  have : pk (List.replicate ps.length 0) l = 0 := by
    unfold pk
    have hz : ∀ i ∈ l, at0 (List.replicate ps.length 0) i = 0 := fun i _ => by
      unfold at0
      simp [List.getD, List.getElem?_replicate]
      split <;> rfl
    rw [List.map_congr_left hz]
    clear hz hl hpk
    induction l with
    | nil => rfl
    | cons a l ih => simp [ih]
  omega
theorem turnF_eq (call : Nat → List SV → M SV) (tg : Tgt) (own : List Nat) (cd : Option Ex) (tg1 : Tgt) (own1 : List Nat) (it1 : It) (cd1 : Option Ex) (e : Ex) (ρ : Env) (x : PyData) : turnF call tg own cd tg1 own1 it1 cd1 e ρ x =
  M.bnd (lift (bindT tg x (wipeE ρ own))) fun ρ1 => M.bnd (evC call cd ρ1) fun t => if t then M.bnd (evI call it1 ρ1) fun ys => compL (fun y => noEx (turnM call tg1 own1 cd1 e ρ1 y)) ys else M.ret [] := rfl
theorem e_best_weights (k : Nat) {reel : Int} {ps : List Int} {m : Nat} (g : GoodP reel ps) (h5 : ps.length ≤ 5) (hm1 : 1 ≤ m) (hm : m ≤ 3) :
    ∃ row, IsBest reel ps m row ∧ evF PP (k + 6) 18 [.d (.int reel), .d (iT ps), .d (.int (m : Int))] = M.ret (.d (pairT row.sum row)) := by
  obtain ⟨ls, a1, a2⟩ := e_fitting (k + 3) reel ps g.l2
  have step : ∀ (i : Nat) d, (ps.map PyData.int)[i]? = some d → ∀ ρ, (∃ o, ρ = [some (.d (.int reel)), some (.d (iT ps)), some (.d (.int (m : Int))), some (.d (.list (ls.map iT))), some (.d (.list ((rowsU m (0 + i)).map iT))), o, none, none, none]) →
      ∃ ρ1 ρ2, bindT (.one 5) d ρ = some ρ1 ∧ evSs (evF PP (k + 5)) [.set false 4 (.comp2 (.one 6) [6, 7] (.ex (.v 4)) none (.one 7) [7] (.range [.bin .add (.v 2) (.c (.int 1))]) none (.bin .add (.v 6) (.tup [.v 7])))] ρ1 = M.ret (.nx ρ2) ∧
        ∃ o, ρ2 = [some (.d (.int reel)), some (.d (iT ps)), some (.d (.int (m : Int))), some (.d (.list (ls.map iT))), some (.d (.list ((rowsU m (0 + i + 1)).map iT))), o, none, none, none] := by
    intro i d hd ρ ⟨o, e⟩
    subst e
    rw [Nat.zero_add]
    rw [List.getElem?_map] at hd
    obtain ⟨p, hp, rfl⟩ := Option.map_eq_some_iff.mp hd
    have hi : i < ps.length := (List.getElem?_eq_some_iff.mp hp).1
    refine ⟨_, [some (.d (.int reel)), some (.d (iT ps)), some (.d (.int (m : Int))), some (.d (.list (ls.map iT))), some (.d (.list ((rowsU m (i + 1)).map iT))), some (.d (.int p)), none, none, none], bindT_one _ 5 _, ?_, _, rfl⟩
    have hr : rangeD [.int ((m : Int) + 1)] = some ((List.range (m + 1)).map fun i : Nat => .int (i : Int)) := range_nat (n := m + 1) (by omega)
    simp [-List.map_map]
    rw [compF_map (c := iT) (g := fun row => (rowNext m row).map iT) (rowsU m i) fun row hrow => ?_]
    · have hlen : ((rowsU m i).flatMap fun row => (rowNext m row).map iT) = (rowsU m (i + 1)).map iT := by
        show _ = ((rowsU m i).flatMap (rowNext m)).map iT
        rw [List.map_flatMap]
      have hs : ((rowsU m (i + 1)).map iT).length ≤ sizeLine := by
        rw [List.length_map, rowsU_len]
        have := pow4 (m := m) (n := i + 1) hm (by omega)
        have := sz
        omega
      simp only [bnd_ret', hlen]
      rw [if_pos hs]
    · have hl := (rowsU_in hrow).1
      rw [turnF_eq]
      simp [hr, -List.map_map]
      rw [compL_el (c := fun i : Nat => PyData.int (i : Int)) (g := fun w : Nat => iT (row ++ [(w : Int)])) (List.range (m + 1)) fun w hw => ?_]
      · simp [rowNext, Function.comp_def]
      · have := bin_add_tup (xs := row.map PyData.int) (ys := [.int (w : Int)]) (by simp; omega)
        have e : binop .add (iT row) (.tuple [.int (w : Int)]) = some (iT (row ++ [(w : Int)])) := by
          show binop .add (.tuple (row.map .int)) _ = _
          rw [this]
          simp [iT]
        simp [e]
  obtain ⟨ρ2, f1, o, e⟩ := forL_ix (fun i ρ => ∃ o, ρ = [some (.d (.int reel)), some (.d (iT ps)), some (.d (.int (m : Int))), some (.d (.list (ls.map iT))), some (.d (.list ((rowsU m i).map iT))), o, none, none, none]) (ps.map PyData.int) 0
    [some (.d (.int reel)), some (.d (iT ps)), some (.d (.int (m : Int))), some (.d (.list (ls.map iT))), some (.d (.list [iT []])), none, none, none, none] ⟨none, rfl⟩ step
  subst e
  simp only [List.length_map, Nat.zero_add] at f1
  have hfl : ∃ x xs, (rowsU m ps.length).filter (fun r => fairB reel ps r m) = x :: xs := by
    have : List.replicate ps.length (0 : Int) ∈ (rowsU m ps.length).filter (fun r => fairB reel ps r m) := List.mem_filter.mpr ⟨zero_row m _, zero_fair reel ps m⟩
    cases q : (rowsU m ps.length).filter (fun r => fairB reel ps r m) with
    | nil => rw [q] at this; cases this
    | cons x xs => exact ⟨x, xs, rfl⟩
  obtain ⟨x, xs, hx⟩ := hfl
  obtain ⟨y, hy, m1, m2⟩ := bi_min_pairs (fun r : List Int => -r.sum) (fun r => r) x xs
  rw [← hx] at hy m1 m2
  have hy' := List.mem_filter.mp hy
  refine ⟨y, ⟨hy'.1, hy'.2, fun r hr hf => ?_, fun r hr hf he => ?_⟩, ?_⟩
  · have := (m2 r (List.mem_filter.mpr ⟨hr, hf⟩)).1
    omega
  · exact (m2 r (List.mem_filter.mpr ⟨hr, hf⟩)).2 (by simp [he])
  · rw [evF_at (f := F_best_weights) rfl rfl]
    have hlen : ¬ (5 : Int) < (ps.length : Int) := by omega
    simp [F_best_weights, e_check_pieces (k + 1) g, e_check_whole (k + 2) (whole := (m : Int)) (most := 3) (by omega) (by omega), hlen, a2] at f1 ⊢
    rw [show (PyData.tuple [] : PyData) = iT [] from rfl, f1]
    simp
    rw [compL_if (c := iT) (g := fun row => pairT (-row.sum) row) (p := fun row => fairB reel ps row m) (rowsU m ps.length) fun row hrow => ?_]
    · simp [m1, idx_pair0, idx_pair1]
      rfl
    · have a3 := e_raw_fair (k + 4) ls row m fun l hl i hi => by
        have := (lotsU_in ((a1 l).mp hl).1).2 i hi
        have := (rowsU_in hrow).1
        omega
      rw [any_fair a1] at a3
      simp [a3]
      cases fairB reel ps row m <;> rfl
end Wv

set_option Elab.async false
set_option autoImplicit false
set_option linter.all false
set_option maxRecDepth 100000
set_option maxHeartbeats 4000000
namespace Wv
open PySem PySem.W
theorem all_fair {reel whole : Int} {ps ws : List Int} {ls : List (List Int)} (h : ∀ l, l ∈ ls ↔ l ∈ lotsU ps.length ∧ pk ps l ≤ reel) : (ls.map fun l => decide (pk ws l ≤ whole)).all id = fairB reel ps ws whole := by
  rw [← any_fair h]
  clear h
  induction ls with
  | nil => rfl
  | cons a l ih =>
    simp only [List.map_cons, List.all_cons, List.any_cons, Bool.not_or, ih, id]
    congr 1
    by_cases q : pk ws a ≤ whole
    · simp [q]
    · simp [q]
      omega
theorem e_law_best (k : Nat) {reel : Int} {ps : List Int} {m : Nat} (h5 : ps.length ≤ 5) (hm : m ≤ 3) :
    ∃ row, IsBest reel ps m row ∧ evF PP (k + 3) 27 [.d (.int reel), .d (iT ps), .d (.int (m : Int))] = M.ret (.d (pairT row.sum row)) := by
  obtain ⟨ls, a1, _, a2⟩ := e_law_fitting k reel ps (by omega)
  have hr : rangeD [.int ((m : Int) + 1)] = some ((List.range (m + 1)).map fun i : Nat => .int (i : Int)) := range_nat (n := m + 1) (by omega)
  -- the inner loop
  have inner : ∀ (j : Nat), j < ps.length → ∀ o6 o8, ∃ o8', forL (.one 8) (evSs (evF PP (k + 2)) [.ext false 7 (.comp (.one 9) [9] (.range [.bin .add (.v 2) (.c (.int 1))]) none (.bin .add (.v 8) (.tup [.v 9])))]) ((rowsU m j).map iT)
      [some (.d (.int reel)), some (.d (iT ps)), some (.d (.int (m : Int))), some (.d (.list (ls.map iT))), some (.d (.list ((rowsU m j).map iT))), some (.d .none), o6, some (.d (.list [])), o8, none, none, none] =
      M.ret (.nx [some (.d (.int reel)), some (.d (iT ps)), some (.d (.int (m : Int))), some (.d (.list (ls.map iT))), some (.d (.list ((rowsU m j).map iT))), some (.d .none), o6, some (.d (.list ((rowsU m (j + 1)).map iT))), o8', none, none, none]) := by
    intro j hj o6 o8
    have step : ∀ (i : Nat) d, ((rowsU m j).map iT)[i]? = some d → ∀ ρ, (∃ o8, ρ = [some (.d (.int reel)), some (.d (iT ps)), some (.d (.int (m : Int))), some (.d (.list (ls.map iT))), some (.d (.list ((rowsU m j).map iT))), some (.d .none), o6, some (.d (.list ((((rowsU m j).take (0 + i)).flatMap (rowNext m)).map iT))), o8, none, none, none]) →
        ∃ ρ1 ρ2, bindT (.one 8) d ρ = some ρ1 ∧ evSs (evF PP (k + 2)) [.ext false 7 (.comp (.one 9) [9] (.range [.bin .add (.v 2) (.c (.int 1))]) none (.bin .add (.v 8) (.tup [.v 9])))] ρ1 = M.ret (.nx ρ2) ∧
          ∃ o8, ρ2 = [some (.d (.int reel)), some (.d (iT ps)), some (.d (.int (m : Int))), some (.d (.list (ls.map iT))), some (.d (.list ((rowsU m j).map iT))), some (.d .none), o6, some (.d (.list ((((rowsU m j).take (0 + i + 1)).flatMap (rowNext m)).map iT))), o8, none, none, none] := by
      intro i d hd ρ ⟨o8, e⟩
      subst e
      rw [Nat.zero_add]
      rw [List.getElem?_map] at hd
      obtain ⟨row, hrow, rfl⟩ := Option.map_eq_some_iff.mp hd
      have hmem := List.mem_of_getElem? hrow
      have hl := (rowsU_in hmem).1
      have hi : i < (rowsU m j).length := (List.getElem?_eq_some_iff.mp hrow).1
      have h1 : (((rowsU m j).take i).flatMap (rowNext m)).length ≤ 1024 := by
        have e : ∀ l : List (List Int), (l.flatMap (rowNext m)).length = l.length * (m + 1) := by
          intro l
          induction l with
          | nil => simp
          | cons a l ih => rw [List.flatMap_cons, List.length_append, ih, List.length_cons, Nat.add_mul]; simp [rowNext]; omega
        rw [e]
        have hp := pow4 (m := m) (n := j + 1) hm (by omega)
        rw [Nat.pow_succ] at hp
        rw [rowsU_len] at hi
        have : ((rowsU m j).take i).length * (m + 1) ≤ (m + 1) ^ j * (m + 1) := Nat.mul_le_mul_right _ (by rw [List.length_take, rowsU_len]; omega)
        omega
      have h2 : (rowNext m row).length = m + 1 := by simp [rowNext]
      have hnext : ((rowsU m j).take (i + 1)).flatMap (rowNext m) = ((rowsU m j).take i).flatMap (rowNext m) ++ rowNext m row := by
        rw [List.take_add_one, hrow, List.flatMap_append]
        simp
      rw [hnext]
      generalize ((rowsU m j).take i).flatMap (rowNext m) = D at h1 ⊢
      refine ⟨_, [some (.d (.int reel)), some (.d (iT ps)), some (.d (.int (m : Int))), some (.d (.list (ls.map iT))), some (.d (.list ((rowsU m j).map iT))), some (.d .none), o6, some (.d (.list ((D ++ rowNext m row).map iT))), some (.d (iT row)), none, none, none], bindT_one _ 8 _, ?_, _, rfl⟩
      simp [hr, -List.map_map]
      rw [compL_el (c := fun i : Nat => PyData.int (i : Int)) (g := fun w : Nat => iT (row ++ [(w : Int)])) (List.range (m + 1)) fun w hw => ?_]
      · have en : (List.range (m + 1)).map (fun w : Nat => iT (row ++ [(w : Int)])) = (rowNext m row).map iT := by simp [rowNext, Function.comp_def]
        simp only [bnd_ret', en, extM_list]
        rw [if_pos (by simp only [flatOk_false, Bool.true_and, decide_eq_true_eq, List.length_map]; have := sz; omega)]
      · have := bin_add_tup (xs := row.map PyData.int) (ys := [.int (w : Int)]) (by simp; omega)
        have e : binop .add (iT row) (.tuple [.int (w : Int)]) = some (iT (row ++ [(w : Int)])) := by
          show binop .add (.tuple (row.map .int)) _ = _
          rw [this]
          simp [iT]
        simp [e]
    obtain ⟨ρ2, f1, o8', e⟩ := forL_ix (fun i ρ => ∃ o8, ρ = [some (.d (.int reel)), some (.d (iT ps)), some (.d (.int (m : Int))), some (.d (.list (ls.map iT))), some (.d (.list ((rowsU m j).map iT))), some (.d .none), o6, some (.d (.list ((((rowsU m j).take i).flatMap (rowNext m)).map iT))), o8, none, none, none]) ((rowsU m j).map iT) 0 _ ⟨o8, rfl⟩ step
    subst e
    refine ⟨o8', ?_⟩
    have e0 : (rowsU m j).take (0 + ((rowsU m j).map iT).length) = rowsU m j := by rw [Nat.zero_add, List.length_map, List.take_length]
    rw [e0] at f1
    exact f1
  -- the outer loop
  have step : ∀ (i : Nat) d, (ps.map PyData.int)[i]? = some d → ∀ ρ, (∃ o6 o7 o8, ρ = [some (.d (.int reel)), some (.d (iT ps)), some (.d (.int (m : Int))), some (.d (.list (ls.map iT))), some (.d (.list ((rowsU m (0 + i)).map iT))), some (.d .none), o6, o7, o8, none, none, none]) →
      ∃ ρ1 ρ2, bindT (.one 6) d ρ = some ρ1 ∧ evSs (evF PP (k + 2)) [.setL 7 (.lst []), .for_ (.one 8) (.ex (.v 4)) [.ext false 7 (.comp (.one 9) [9] (.range [.bin .add (.v 2) (.c (.int 1))]) none (.bin .add (.v 8) (.tup [.v 9])))], .move 4 7] ρ1 = M.ret (.nx ρ2) ∧
        ∃ o6 o7 o8, ρ2 = [some (.d (.int reel)), some (.d (iT ps)), some (.d (.int (m : Int))), some (.d (.list (ls.map iT))), some (.d (.list ((rowsU m (0 + i + 1)).map iT))), some (.d .none), o6, o7, o8, none, none, none] := by
    intro i d hd ρ ⟨o6, o7, o8, e⟩
    subst e
    rw [Nat.zero_add]
    rw [List.getElem?_map] at hd
    obtain ⟨p, hp, rfl⟩ := Option.map_eq_some_iff.mp hd
    have hi : i < ps.length := (List.getElem?_eq_some_iff.mp hp).1
    obtain ⟨o8', f1⟩ := inner i hi (some (.d (.int p))) o8
    refine ⟨_, [some (.d (.int reel)), some (.d (iT ps)), some (.d (.int (m : Int))), some (.d (.list (ls.map iT))), some (.d (.list ((rowsU m (i + 1)).map iT))), some (.d .none), some (.d (.int p)), none, o8', none, none, none], bindT_one _ 6 _, ?_, _, _, _, rfl⟩
    simp only [ss_cons, st_setL, ev_lst, ed_nil, bnd_ret', listOf_list, setSlot_eq, thenM_nx, st_for, ei_ex, ev_v, getS_zero, getS_succ, toD_ret, seqD_list, lift_some, List.set_cons_succ, List.set_cons_zero, bnd_bnd]
    rw [f1]
    simp
  obtain ⟨ρ2, f1, o6, o7, o8, e⟩ := forL_ix (fun i ρ => ∃ o6 o7 o8, ρ = [some (.d (.int reel)), some (.d (iT ps)), some (.d (.int (m : Int))), some (.d (.list (ls.map iT))), some (.d (.list ((rowsU m i).map iT))), some (.d .none), o6, o7, o8, none, none, none]) (ps.map PyData.int) 0
    [some (.d (.int reel)), some (.d (iT ps)), some (.d (.int (m : Int))), some (.d (.list (ls.map iT))), some (.d (.list [iT []])), some (.d .none), none, none, none, none, none, none] ⟨none, none, none, rfl⟩ step
  subst e
  simp only [List.length_map, Nat.zero_add] at f1
  -- the choice
  let R := rowsU m ps.length
  let bst : Nat → Option (List Int) := fun i => (R.take i).foldl (better (fun r : List Int => r.sum) fun r => fairB reel ps r m) none
  have step2 : ∀ (i : Nat) d, (R.map iT)[i]? = some d → ∀ ρ, (∃ o8, ρ = [some (.d (.int reel)), some (.d (iT ps)), some (.d (.int (m : Int))), some (.d (.list (ls.map iT))), some (.d (.list (R.map iT))), some (.d (encB (fun r => r.sum) (bst (0 + i)))), o6, o7, o8, none, none, none]) →
      ∃ ρ1 ρ2, bindT (.one 8) d ρ = some ρ1 ∧ evSs (evF PP (k + 2)) [.ite (.and (.or (.cmp .is_ (.v 5) (.c .none)) (.cmp .gt (.bi .sum [.v 8]) (.idx (.v 5) (.c (.int 0))))) (.bi .all [.comp (.one 10) [10] (.ex (.v 3)) none (.cmp .le (.bi .sum [.comp (.one 11) [11] (.ex (.v 10)) none (.idx (.v 8) (.v 11))]) (.v 2))])) [.set false 5 (.tup [.bi .sum [.v 8], .v 8])] []] ρ1 = M.ret (.nx ρ2) ∧
        ∃ o8, ρ2 = [some (.d (.int reel)), some (.d (iT ps)), some (.d (.int (m : Int))), some (.d (.list (ls.map iT))), some (.d (.list (R.map iT))), some (.d (encB (fun r => r.sum) (bst (0 + i + 1)))), o6, o7, o8, none, none, none] := by
    intro i d hd ρ ⟨o8, e⟩
    subst e
    rw [Nat.zero_add]
    rw [List.getElem?_map] at hd
    obtain ⟨row, hrow, rfl⟩ := Option.map_eq_some_iff.mp hd
    have hmem : row ∈ rowsU m ps.length := List.mem_of_getElem? hrow
    have hlen := (rowsU_in hmem).1
    have hb : bst (i + 1) = better (fun r : List Int => r.sum) (fun r => fairB reel ps r m) (bst i) row := by
      show (R.take (i + 1)).foldl _ none = _
      rw [List.take_add_one, hrow, List.foldl_append]
      rfl
    have hall : ∀ o, evE (evF PP (k + 2)) (.bi .all [.comp (.one 10) [10] (.ex (.v 3)) none (.cmp .le (.bi .sum [.comp (.one 11) [11] (.ex (.v 10)) none (.idx (.v 8) (.v 11))]) (.v 2))])
        [some (.d (.int reel)), some (.d (iT ps)), some (.d (.int (m : Int))), some (.d (.list (ls.map iT))), some (.d (.list (R.map iT))), o, o6, o7, some (.d (iT row)), none, none, none] = M.ret (.d (.bool (fairB reel ps row m))) := by
      intro o
      simp [-List.map_map]
      rw [compL_el (c := iT) (g := fun l => .bool (decide (pk row l ≤ (m : Int)))) ls fun l hl => ?_]
      · have e : ls.map (fun l => PyData.bool (decide (pk row l ≤ (m : Int)))) = (ls.map fun l => decide (pk row l ≤ (m : Int))).map PyData.bool := by simp [Function.comp_def]
        simp only [bnd_ret', e, bi_all_list, retD_some, toD_ret]
        rw [all_fair a1]
      · simp
        rw [items_at (ws := row) (fun i hi => by have := (lotsU_in ((a1 l).mp hl).1).2 i hi; omega) fun i i0 i1 => by simp [idx_iT' i0 i1]]
        simp [pk]
        rfl
    refine ⟨_, [some (.d (.int reel)), some (.d (iT ps)), some (.d (.int (m : Int))), some (.d (.list (ls.map iT))), some (.d (.list (R.map iT))), some (.d (encB (fun r => r.sum) (bst (i + 1)))), o6, o7, some (.d (iT row)), none, none, none], bindT_one _ 8 _, ?_, _, rfl⟩
    rw [hb]
    simp only [ss_cons, st_ite, ev_and, ev_or, ev_cmp, ev_v, ev_c, setAll_cons, setAll_nil, List.set_cons_succ, List.set_cons_zero, getS_succ, getS_zero, toD_ret, bnd_ret', cmp_is, hall, bnd_bnd, bnd_ite]
    cases bst i with
    | none =>
      cases q : fairB reel ps row m with
      | true => simp [encB, isOp, better, q]; rfl
      | false => simp [encB, isOp, better, q]
    | some b =>
      have e1 : isOp (pairT b.sum b) .none = some false := rfl
      by_cases q2 : b.sum < row.sum
      · cases q : fairB reel ps row m with
        | true => simp [encB, e1, better, q, q2, idx_pair0]; rfl
        | false => simp [encB, e1, better, q, q2, idx_pair0]
      · simp [encB, e1, better, q2, idx_pair0]
  obtain ⟨ρ3, g1, o8', e⟩ := forL_ix (fun i ρ => ∃ o8, ρ = [some (.d (.int reel)), some (.d (iT ps)), some (.d (.int (m : Int))), some (.d (.list (ls.map iT))), some (.d (.list (R.map iT))), some (.d (encB (fun r => r.sum) (bst i))), o6, o7, o8, none, none, none]) (R.map iT) 0
    [some (.d (.int reel)), some (.d (iT ps)), some (.d (.int (m : Int))), some (.d (.list (ls.map iT))), some (.d (.list (R.map iT))), some (.d .none), o6, o7, o8, none, none, none] ⟨o8, rfl⟩ step2
  subst e
  have hfm := first_max (w := fun r : List Int => r.sum) (p := fun r => fairB reel ps r m) (fun a b => dataLt (iT b) (iT a) = false) R [] none (by simpa using rows_dl) (fun a ha => nomatch ha)
  have hb : bst (0 + (R.map iT).length) = R.foldl (better (fun r : List Int => r.sum) fun r => fairB reel ps r m) none := by
    show (R.take _).foldl _ none = _
    rw [Nat.zero_add, List.length_map, List.take_length]
  rw [hb] at g1
  generalize hB : R.foldl (better (fun r : List Int => r.sum) fun r => fairB reel ps r m) none = B at *
  cases B with
  | none =>
    have this : fairB reel ps (List.replicate ps.length 0) m = false := hfm (List.replicate ps.length 0) (by simpa using zero_row m ps.length)
    rw [zero_fair] at this
    cases this
  | some y =>
    obtain ⟨b1, b2, b3⟩ := hfm
    simp only [List.nil_append] at b1 b3
    refine ⟨y, ⟨b1, b2, fun r hr hf => (b3 r hr hf).1, fun r hr hf he => ?_⟩, ?_⟩
    · rcases (b3 r hr hf).2 he with rfl | z
      · exact dl_irrefl _
      · exact z
    · rw [evF_at (f := F_law_best) rfl rfl]
      unfold F_law_best
      simp only [List.map_cons, List.map_nil, List.length_cons, List.length_nil, List.replicate, Nat.reduceAdd, Nat.reduceSub, List.cons_append, List.nil_append, ss_cons, st_par, ev_call, es_cons, es_nil, ev_v, getS_zero, getS_succ, bnd_ret', a2, ev_lst, ed_cons, ev_tup, ed_nil, toD_ret, ev_c, setSs, setSlot_eq, List.set_cons_succ, List.set_cons_zero, if_true, thenM_nx, st_for, ei_ex, seqD_iT, seqD_list, lift_some, bnd_bnd]
      rw [show (PyData.tuple [] : PyData) = iT [] from rfl, f1]
      simp only [bnd_ret', thenM_nx, ss_cons, st_for, ei_ex, ev_v, getS_zero, getS_succ, toD_ret, seqD_list, lift_some, bnd_bnd]
      rw [g1]
      simp [encB]
end Wv

set_option Elab.async false
set_option autoImplicit false
set_option linter.all false
set_option maxRecDepth 100000
set_option maxHeartbeats 4000000
namespace Wv
open PySem PySem.W
/-! ### the law's own comparison -/
theorem eqv_int (a b : Int) : PyData.eqv (.int a) (.int b) = decide (a = b) := by rw [PyData.eqv]; rfl
theorem cmp_eq_bool (a : Bool) : cmpop .eq (.bool a) (.bool a) = some true := by
  show (if decide (min (PyData.bool a).depth (PyData.bool a).depth ≤ 60) then some (PyData.eqv (.bool a) (.bool a)) else none) = _
  rw [if_pos (by simp [PyData.depth])]
  cases a <;> rfl
theorem cmp_ne_bool (a b : Bool) : cmpop .ne (.bool a) (.bool b) = some (a != b) := by
  show (if decide (min (PyData.bool a).depth (PyData.bool b).depth ≤ 60) then some (PyData.eqv (.bool a) (.bool b)) else none).map (!·) = _
  rw [if_pos (by simp [PyData.depth])]
  cases a <;> cases b <;> rfl
theorem e_is_int (k : Nat) (a : Int) : evF PP (k + 1) 22 [.d (.int a), .d (.int a)] = M.ret (.d (.bool true)) := by
  rw [evF_at (f := F_law_is) rfl rfl]
  simp [F_law_is, isTy, cmp_is, isOp]
theorem e_is_bool (k : Nat) (a : Bool) : evF PP (k + 1) 22 [.d (.bool a), .d (.bool a)] = M.ret (.d (.bool true)) := by
  rw [evF_at (f := F_law_is) rfl rfl]
  simp [F_law_is, isTy, cmp_is, isOp, cmp_eq_bool]
theorem e_is_tup (k : Nat) (ds : List PyData) (h : ∀ d ∈ ds, evF PP k 22 [.d d, .d d] = M.ret (.d (.bool true))) : evF PP (k + 1) 22 [.d (.tuple ds), .d (.tuple ds)] = M.ret (.d (.bool true)) := by
  rw [evF_at (f := F_law_is) rfl rfl]
  have hz : zipD (.tuple ds) (.tuple ds) = some (ds.map fun d => .tuple [d, d]) := by
    show some (pairUp ds ds) = _
    congr 1
    clear h
    induction ds with
    | nil => rfl
    | cons d ds ih => simp [pairUp, ih]
  simp [F_law_is, isTy, cmp_ne_bool, hz, -List.map_map]
  rw [compL_el (c := fun d => PyData.tuple [d, d]) (g := fun _ => .bool true) ds fun d hd => by simp [h d hd]]
  have e : ds.map (fun _ => PyData.bool true) = (ds.map fun _ => true).map PyData.bool := by simp
  simp only [bnd_ret', e, bi_all_list, retD_some, toD_ret]
  have : (ds.map fun _ => true).all id = true := by simp
  rw [this]
theorem e_is_pair (k : Nat) (n : Int) (l : List Int) : evF PP (k + 3) 22 [.d (pairT n l), .d (pairT n l)] = M.ret (.d (.bool true)) := by
  refine e_is_tup (k + 2) _ fun d hd => ?_
  simp at hd
  rcases hd with rfl | rfl
  · exact e_is_int (k + 1) n
  · refine e_is_tup (k + 1) _ fun d hd => ?_
    obtain ⟨x, _, rfl⟩ := List.mem_map.mp hd
    exact e_is_int k x
/-! ### draws -/
structure HOk (s : Hand) : Prop where
  cells : ∀ x ∈ s.cells, 0 ≤ x
  pos : 0 ≤ s.pos
  big : 0 ≤ s.big
theorem run_bnd {α β : Type} {m : M α} {k : α → M β} {s s1 : Hand} {a : α} (h : m s = .ok a s1) {r : R β} (h2 : k a s1 = r) : M.bnd m k s = r := by rw [bnd_ok h, h2]
theorem gh0 (s : Hand) : getHand (.int 0) s = .ok (.d (.list (s.cells.map .int))) s := rfl
theorem gh1 (s : Hand) : getHand (.int 1) s = .ok (.d (.int s.pos)) s := rfl
theorem gh2 (s : Hand) : getHand (.int 2) s = .ok (.d (.int s.big)) s := rfl
theorem gh3 (s : Hand) : getHand (.int 3) s = .ok (.d (.int s.mix)) s := rfl
theorem gh4 (s : Hand) : getHand (.int 4) s = .ok (.d (.int s.cnt)) s := rfl
theorem rgh0 {β : Type} (s : Hand) (k : PyData → M β) : M.bnd (toD (getHand (.int 0))) k s = k (.list (s.cells.map .int)) s := rfl
theorem rgh1 {β : Type} (s : Hand) (k : PyData → M β) : M.bnd (toD (getHand (.int 1))) k s = k (.int s.pos) s := rfl
theorem rgh2 {β : Type} (s : Hand) (k : PyData → M β) : M.bnd (toD (getHand (.int 2))) k s = k (.int s.big) s := rfl
theorem rgh3 {β : Type} (s : Hand) (k : PyData → M β) : M.bnd (toD (getHand (.int 3))) k s = k (.int s.mix) s := rfl
theorem rgh4 {β : Type} (s : Hand) (k : PyData → M β) : M.bnd (toD (getHand (.int 4))) k s = k (.int s.cnt) s := rfl
theorem rgh0' {β : Type} (s : Hand) (k : SV → M β) : M.bnd (getHand (.int 0)) k s = k (.d (.list (s.cells.map .int))) s := rfl
theorem rs1 {β : Type} (s : Hand) (ρ : Env) (i : Int) (k : Fl → M β) : M.bnd (hset (.int 1) (.int i) ρ) k s = k (.nx ρ) { s with pos := i } := rfl
theorem rs2 {β : Type} (s : Hand) (ρ : Env) (i : Int) (k : Fl → M β) : M.bnd (hset (.int 2) (.int i) ρ) k s = k (.nx ρ) { s with big := i } := rfl
theorem rs3 {β : Type} (s : Hand) (ρ : Env) (i : Int) (k : Fl → M β) : M.bnd (hset (.int 3) (.int i) ρ) k s = k (.nx ρ) { s with mix := i } := rfl
theorem rs4 {β : Type} (s : Hand) (ρ : Env) (i : Int) (k : Fl → M β) : M.bnd (hset (.int 4) (.int i) ρ) k s = k (.nx ρ) { s with cnt := i } := rfl
theorem fmod_pos {i j : Int} (h : 0 < j) : binop .mod (.int i) (.int j) = some (.int (i % j)) := by
  show (if decide (j ≠ 0) then some (PyData.int (i.fmod j)) else none) = _
  rw [if_pos (by simp; omega), Int.fmod_eq_emod_of_nonneg _ (by omega)]
theorem mul_small {i j : Int} (h : -(2 ^ 64) < j ∧ j < 2 ^ 64) : binop .mul (.int i) (.int j) = some (.int (i * j)) := by
  show (if mulOk i j then some (PyData.int (i * j)) else none) = _
  rw [if_pos]
  unfold mulOk
  simp only [Bool.or_eq_true, Bool.and_eq_true, decide_eq_true_eq]
  exact .inr h
theorem mul_small' {i j : Int} (h : -(2 ^ 64) < i ∧ i < 2 ^ 64) : binop .mul (.int i) (.int j) = some (.int (i * j)) := by
  show (if mulOk i j then some (PyData.int (i * j)) else none) = _
  rw [if_pos]
  unfold mulOk
  simp only [Bool.or_eq_true, Bool.and_eq_true, decide_eq_true_eq]
  exact .inl h
theorem pow1018 : binop .pow (.int 10) (.int 18) = some (.int 1000000000000000000) := by
  show (if decide ((0:Int) ≤ 18) && decide ((18:Int) ≤ 1000000) && decide ((10:Int).natAbs < 2 ^ 64) then some (PyData.int ((10:Int) ^ (18:Int).toNat)) else none) = _
  rw [if_pos (by decide)]
  rfl
theorem slotH0 (r : Env) : slotH (some .hand :: r) 0 = M.ret () := rfl
theorem idx_cells {l : List Int} {i : Int} (h0 : 0 ≤ i) (h1 : i < l.length) : idxop (.list (l.map .int)) (.int i) = some (.int (at0 l i)) := by
  have := idx_iT h0 h1
  exact this
theorem mulA (x y : Int) : binop .mul (.int (x % 2147483647)) (.int y) = some (.int (x % 2147483647 * y)) := mul_small' ⟨by omega, by omega⟩
theorem mulB (x : Int) : binop .mul (.int x) (.int 69621) = some (.int (x * 69621)) := mul_small ⟨by decide, by decide⟩
theorem mulC (x : Int) : binop .mul (.int x) (.int 48271) = some (.int (x * 48271)) := mul_small ⟨by decide, by decide⟩
theorem mulD (x : Int) : binop .mul (.int 7919) (.int x) = some (.int (7919 * x)) := mul_small' ⟨by decide, by decide⟩
theorem modA (x : Int) : binop .mod (.int x) (.int 2147483647) = some (.int (x % 2147483647)) := fmod_pos (by decide)
theorem modB (x : Int) : binop .mod (.int x) (.int 2147483399) = some (.int (x % 2147483399)) := fmod_pos (by decide)
theorem modC (x : Int) : binop .mod (.int x) (.int 2147483629) = some (.int (x % 2147483629)) := fmod_pos (by decide)
theorem divA (x : Int) : binop .fdiv (.int x) (.int 1009) = some (.int (x / 1009)) := fdiv_pos (by decide) (by decide)
theorem divB (x : Int) : binop .fdiv (.int x) (.int 2003) = some (.int (x / 2003)) := fdiv_pos (by decide) (by decide)
theorem divC (x : Int) : binop .fdiv (.int x) (.int 16) = some (.int (x / 16)) := fdiv_pos (by decide) (by decide)
def drawN (s : Hand) : Int :=
  let n1 := ((s.mix + 7919 * (s.cnt + 1)) * 48271) % 2147483647
  let n2 := (n1 * (n1 / 1009 + 69621)) % 2147483647
  (n2 * (n2 / 2003 + 40692)) % 2147483399
theorem e_tail (k : Nat) {limit : Int} (h1 : 1 ≤ limit) (h2 : limit < 1000000000) (s : Hand) (hs : HOk s) (o : Option SV) :
    ∃ v s', M.bnd (evSs (evF PP k) (F_law_draw.body.drop 1) [some .hand, some (.d (.int limit)), o, none, none]) endF s = .ok (.d (.int v)) s' ∧ HOk s' ∧ 0 ≤ v ∧ v < limit := by
  have hlim : (0 : Int) < limit := by omega
  have hd : ∀ x : Int, binop .fdiv (.int x) (.int limit) = some (.int (x / limit)) := fun x => fdiv_pos hlim h2
  have hm : ∀ x : Int, binop .mod (.int x) (.int limit) = some (.int (x % limit)) := fun x => fmod_pos hlim
  by_cases c : 0 < s.big
  · refine ⟨s.big % limit, { s with big := s.big / limit }, ?_, ⟨hs.cells, hs.pos, Int.ediv_nonneg hs.big (by omega)⟩, Int.emod_nonneg _ (by omega), Int.emod_lt_of_pos _ hlim⟩
    simp [F_law_draw, rgh0, rgh1, rgh2, rgh3, rgh4, rgh0', rs1, rs2, rs3, rs4, c, slotH0, hd, hm]
    rfl
  · refine ⟨drawN s / 16 % limit, { s with cnt := s.cnt + 1 }, ?_, ⟨hs.cells, hs.pos, hs.big⟩, Int.emod_nonneg _ (by omega), Int.emod_lt_of_pos _ hlim⟩
    simp [F_law_draw, rgh0, rgh1, rgh2, rgh3, rgh4, rgh0', rs1, rs2, rs3, rs4, c, slotH0, hd, hm, mulA, mulB, mulC, mulD, modA, modB, modC, divA, divB, divC]
    rfl
theorem e_draw (k : Nat) {limit : Int} (h1 : 1 ≤ limit) (h2 : limit < 1000000000) (s : Hand) (hs : HOk s) :
    ∃ v s', evF PP (k + 1) 20 [.hand, .d (.int limit)] s = .ok (.d (.int v)) s' ∧ HOk s' ∧ 0 ≤ v ∧ v < limit := by
  rw [evF_at (f := F_law_draw) rfl rfl]
  have split : ∀ (s s1 : Hand) (o : Option SV), HOk s1 → evS (evF PP k) (F_law_draw.body.headD .pass) [some .hand, some (.d (.int limit)), none, none, none] s = .ok (.nx [some .hand, some (.d (.int limit)), o, none, none]) s1 →
      ∃ v s', M.bnd (evSs (evF PP k) F_law_draw.body [some .hand, some (.d (.int limit)), none, none, none]) endF s = .ok (.d (.int v)) s' ∧ HOk s' ∧ 0 ≤ v ∧ v < limit := fun s s1 o h1' e => by
    obtain ⟨v, s', t1, t2⟩ := e_tail k h1 h2 s1 h1' o
    refine ⟨v, s', ?_, t2⟩
    rw [← t1]
    show M.bnd (evSs (evF PP k) (F_law_draw.body.headD .pass :: F_law_draw.body.drop 1) _) endF s = _
    rw [ss_cons, bnd_bnd, bnd_ok e]
    rfl
  have go := split s
  by_cases c1 : s.big = 0
  · by_cases c2 : s.pos < (s.cells.length : Int)
    · by_cases c3 : 1000000000000000000 ≤ at0 s.cells s.pos
      · refine go { s with pos := s.pos + 1, mix := (s.mix * 69621 + at0 s.cells s.pos + 463) % 2147483629, big := at0 s.cells s.pos } (some (.d (.int (at0 s.cells s.pos)))) ⟨hs.cells, by have := hs.pos; show 0 ≤ s.pos + 1; omega, by show 0 ≤ at0 s.cells s.pos; omega⟩ ?_
        simp [F_law_draw, rgh0, rgh1, rgh2, rgh3, rgh4, rgh0', rs1, rs2, rs3, rs4, c1, c2, slotH0, idx_cells hs.pos c2, pow1018, mulB, modC, c3]
        rfl
      · refine go { s with pos := s.pos + 1, mix := (s.mix * 69621 + at0 s.cells s.pos + 463) % 2147483629 } (some (.d (.int (at0 s.cells s.pos)))) ⟨hs.cells, by have := hs.pos; show 0 ≤ s.pos + 1; omega, hs.big⟩ ?_
        simp [F_law_draw, rgh0, rgh1, rgh2, rgh3, rgh4, rgh0', rs1, rs2, rs3, rs4, c1, c2, slotH0, idx_cells hs.pos c2, pow1018, mulB, modC, c3]
        rfl
    · refine go s none hs ?_
      simp [F_law_draw, rgh0, rgh1, rgh2, rgh3, rgh4, rgh0', rs1, rs2, rs3, rs4, c1, c2]
      rfl
  · refine go s none hs ?_
    simp [F_law_draw, rgh0, rgh1, rgh2, rgh3, rgh4, rgh0', rs1, rs2, rs3, rs4, c1]
    rfl
end Wv

set_option Elab.async false
set_option autoImplicit false
set_option linter.all false
set_option maxRecDepth 100000
set_option maxHeartbeats 4000000
namespace Wv
open PySem PySem.W
theorem toD_ok {m : M SV} {s s' : Hand} {p : PyData} (h : m s = .ok (.d p) s') : toD m s = .ok p s' := by
  unfold toD
  rw [bnd_ok h]
  rfl
theorem e_some (k : Nat) {l : List Int} (h1 : 1 ≤ l.length) (h2 : l.length ≤ 1000) (s : Hand) (hs : HOk s) : ∃ v s', evF PP (k + 2) 21 [.hand, .d (.list (l.map .int))] s = .ok (.d (.int v)) s' ∧ HOk s' ∧ v ∈ l := by
  obtain ⟨v, s', e, h', v0, v1⟩ := e_draw k (limit := (l.length : Int)) (by omega) (by omega) s hs
  refine ⟨at0 l v, s', ?_, h', ?_⟩
  · rw [evF_at (f := F_law_some) rfl rfl]
    simp [F_law_some]
    refine (bnd_ok (toD_ok e)).trans ?_
    simp [idx_cells v0 v1]
    rfl
  · have : v.toNat < l.length := by omega
    unfold at0
    simp [List.getD, List.getElem?_eq_getElem this]
theorem ints_of {ys : List PyData} {p : Int → Prop} (h : ∀ y ∈ ys, ∃ x, y = .int x ∧ p x) : ∃ l : List Int, ys = l.map .int ∧ ∀ x ∈ l, p x := by
  induction ys with
  | nil => exact ⟨[], rfl, fun x hx => nomatch hx⟩
  | cons y ys ih =>
    obtain ⟨l, e, hl⟩ := ih fun z hz => h z (List.mem_cons_of_mem _ hz)
    obtain ⟨x, rfl, hx⟩ := h y List.mem_cons_self
    refine ⟨x :: l, by simp [e], fun z hz => ?_⟩
    rcases List.mem_cons.mp hz with rfl | hz
    · exact hx
    · exact hl z hz
theorem noEx_run {α : Type} {m : M α} {s s' : Hand} {a : α} (h : m s = .ok a s') : noEx m s = .ok a s' := by
  unfold noEx
  rw [h]
theorem e_pieces (k : Nat) (s : Hand) (hs : HOk s) : ∃ reel ps s', GoodP reel ps ∧ evF PP (k + 3) 23 [.hand, .d (.int 6)] s = .ok (.d (.tuple [.int reel, iT ps])) s' ∧ HOk s' := by
  obtain ⟨a, s1, e1, h1, ha⟩ := e_some k (l := [10, 100]) (by decide) (by decide) s hs
  have ha2 : 10 ≤ a ∧ a ≤ 100 := by simp at ha; omega
  obtain ⟨r, s2, e2, h2, r0, r1⟩ := e_draw (k + 1) (limit := a) (by omega) (by omega) s1 h1
  obtain ⟨n, s3, e3, h3, n0, n1⟩ := e_draw (k + 1) (limit := 6) (by omega) (by omega) s2 h2
  obtain ⟨m, rfl⟩ : ∃ m : Nat, n = (m : Int) := ⟨n.toNat, by omega⟩
  have hr : rangeD [.int (1 + (m : Int))] = some ((List.range (m + 1)).map fun i : Nat => .int (i : Int)) := by
    rw [show (1 + (m : Int)) = ((m + 1 : Nat) : Int) by omega]
    exact range_nat (by omega)
  obtain ⟨ys, s4, e4, h4, hl, hy⟩ := compL_hand (f := fun y => noEx (turnM (evF PP (k + 2)) (.one 3) [3] none (.bin .add (.c (.int 1)) (.call 20 [.v 0, .v 2])) [some .hand, some (.d (.int 6)), some (.d (.int (1 + r))), none] y)) (c := fun i : Nat => PyData.int (i : Int)) HOk
    (fun _ y => ∃ x, y = .int x ∧ 1 ≤ x ∧ x ≤ 1 + r) (List.range (m + 1)) s3 h3 (fun i _ s hs => by
      obtain ⟨v, s', e, h', v0, v1⟩ := e_draw (k + 1) (limit := 1 + r) (by omega) (by omega) s hs
      refine ⟨.int (1 + v), s', ?_, h', 1 + v, rfl, by omega, by omega⟩
      refine noEx_run ?_
      simp
      refine (bnd_ok (toD_ok e)).trans ?_
      rfl)
  obtain ⟨ps, rfl, hps⟩ := ints_of fun y hy' => (hy y hy').choose_spec.2
  have hlen : ps.length = m + 1 := by simpa using hl
  refine ⟨1 + r, ps, s4, ⟨by omega, by omega, by omega, by omega, hps⟩, ?_, h4⟩
  rw [evF_at (f := F_law_pieces) rfl rfl]
  simp only [turnM_eq] at e4
  simp [F_law_pieces, -List.map_map] at e4 ⊢
  refine (bnd_ok (show evF PP (k + 2) 21 [.hand, .d (.list [.int 10, .int 100])] s = _ from e1)).trans ?_
  refine (bnd_ok (toD_ok e2)).trans ?_
  simp [-List.map_map]
  refine (bnd_ok (toD_ok e3)).trans ?_
  simp [hr, -List.map_map]
  refine (bnd_ok e4).trans ?_
  rfl
theorem zero_fair' (reel : Int) (ps : List Int) {whole : Int} (h : 0 ≤ whole) : fairB reel ps (List.replicate ps.length 0) whole = true := by
  obtain ⟨m, rfl⟩ : ∃ m : Nat, whole = (m : Int) := ⟨whole.toNat, by omega⟩
  exact zero_fair reel ps m
theorem mul_zeros {n : Nat} (h : n ≤ 1000) : binop .mul (.tuple [.int 0]) (.int (n : Int)) = some (iT (List.replicate n 0)) := by
  show (if repOk 1 (n : Int) then some (PyData.tuple (rep [.int 0] (n : Int))) else none) = _
  rw [if_pos]
  · unfold rep iT
    congr 2
    rw [Int.toNat_natCast]
    clear h
    induction n with
    | zero => rfl
    | succ n ih => rw [List.replicate_succ, List.flatten_cons, ih]; rfl
  · have := sz
    simp [repOk]
    omega
theorem barred_zero {n : Nat} {whole : Int} (h : 1 ≤ whole) : barredBy (List.replicate n 0) whole = 0 := by
  unfold barredBy
  have e1 : (List.replicate n (0 : Int)).sum = 0 := by
    induction n with
    | zero => rfl
    | succ n ih => simp [List.replicate_succ, ih]
  have e2 : (0 + whole - 1) / whole = 0 := Int.ediv_eq_zero_of_lt (by omega) (by omega)
  rw [e1, e2]
  simp
theorem slice4 (l : List Int) : sliceop (iT l) none (some 4) = some (iT (l.take 4)) := by
  show some (PyData.tuple (cutD (l.map .int) none (some 4))) = _
  have e1 : HT.sIx (l.map PyData.int).length 0 none = 0 := rfl
  have e2 : HT.sIx (l.map PyData.int).length (l.map PyData.int).length (some 4) = min 4 l.length := by
    unfold HT.sIx
    rw [List.length_map]
    simp
  have e3 : cutD (l.map .int) none (some 4) = (l.take 4).map PyData.int := by
    unfold cutD
    rw [e1, e2, List.drop_zero, Nat.sub_zero, List.map_take]
    by_cases h : 4 ≤ l.length
    · rw [Nat.min_eq_left h]
    · rw [Nat.min_eq_right (by omega), List.take_of_length_le (by simp), List.take_of_length_le (by simp; omega)]
  rw [e3]
  rfl
theorem setSs_c (ρ : Env) (i : Nat) (is : List Nat) (x : SV) (xs : List SV) : setSs ρ (i :: is) (x :: xs) = setSs (ρ.set i (some x)) is xs := rfl
theorem setSs_n (ρ : Env) : setSs ρ [] [] = ρ := rfl
theorem isn_true : cmpop .isn (.bool true) (.bool true) = some false := rfl
theorem heavy_fair {reel : Int} {ps ws : List Int} {L : List Int} (h : IsHeavy reel ps ws L) (whole : Int) : fairB reel ps ws whole = decide (pk ws L ≤ whole) := by
  by_cases q : pk ws L ≤ whole
  · rw [decide_eq_true q, fair_iff]
    intro l hl hf
    have := h.max l hl hf
    omega
  · rw [decide_eq_false q]
    cases z : fairB reel ps ws whole with
    | false => rfl
    | true => exact absurd (fair_iff.mp z L h.lot h.fit) q
theorem pk_le {ws l : List Int} (h : ∀ x ∈ ws, 0 ≤ x ∧ x ≤ 100) (hl : ∀ i ∈ l, 0 ≤ i ∧ i < ws.length) : 0 ≤ pk ws l ∧ pk ws l ≤ 100 * l.length := by
  unfold pk
  induction l with
  | nil => simp
  | cons a l ih =>
    have ih := ih fun i hi => hl i (List.mem_cons_of_mem _ hi)
    obtain ⟨n, rfl⟩ : ∃ n : Nat, a = (n : Int) := ⟨a.toNat, by have := (hl a List.mem_cons_self).1; omega⟩
    have ha := h _ (at0_mem (l := ws) (i := n) (by have := (hl _ List.mem_cons_self).2; omega))
    simp only [List.map_cons, List.sum_cons, List.length_cons]
    omega
theorem e_right (k : Nat) (s : Hand) (hs : HOk s) : ∃ s', evF PP (k + 10) 28 [.hand] s = .ok (.d (.bool true)) s' ∧ HOk s' := by
  obtain ⟨reel, ps, s1, g, e1, h1⟩ := e_pieces (k + 6) s hs
  obtain ⟨a, s2, e2, h2, ha⟩ := e_some (k + 7) (l := [4, 100]) (by decide) (by decide) s1 h1
  have ha2 : 4 ≤ a ∧ a ≤ 100 := by simp at ha; omega
  obtain ⟨w, s3, e3, h3, w0, w1⟩ := e_draw (k + 8) (limit := a) (by omega) (by omega) s2 h2
  obtain ⟨ys, s4, e4, h4, hl, hy⟩ := compL_hand (f := fun y => noEx (turnM (evF PP (k + 9)) (.one 5) [5] none (.call 20 [.v 0, .call 21 [.v 0, .lst [.c (.int 2), .bin .add (.v 3) (.c (.int 1)), .c (.int 101)]]])
      [some .hand, some (.d (.int reel)), some (.d (iT ps)), some (.d (.int (1 + w))), none, none, none, none, none, none, none, none] y)) (c := PyData.int) HOk
    (fun _ y => ∃ x, y = .int x ∧ 0 ≤ x ∧ x ≤ 100) ps s3 h3 (fun i _ s hs => by
      obtain ⟨b, s', e, h', hb⟩ := e_some (k + 7) (l := [2, 1 + w + 1, 101]) (by simp) (by simp) s hs
      have hb2 : 2 ≤ b ∧ b ≤ 101 := by simp at hb; omega
      obtain ⟨v, s'', e', h'', v0, v1⟩ := e_draw (k + 8) (limit := b) (by omega) (by omega) s' h'
      refine ⟨.int v, s'', ?_, h'', v, rfl, by omega, by omega⟩
      refine noEx_run ?_
      simp
      refine (bnd_ok (show evF PP (k + 9) 21 [.hand, .d (.list [.int 2, .int (1 + w + 1), .int 101])] s = _ from e)).trans ?_
      refine (bnd_ok (toD_ok e')).trans ?_
      rfl)
  obtain ⟨ws, rfl, hws⟩ := ints_of fun y hy' => (hy y hy').choose_spec.2
  have gw : GoodW ps ws := ⟨by simpa using hl, hws⟩
  obtain ⟨L, hL, e5⟩ := e_law_heaviest (k + 6) (ps := ps) (ws := ws) (reel := reel) g.l2 (by have := g.r1; omega) gw.len
  obtain ⟨L', hL', e6⟩ := e_heaviest (k + 3) g gw
  rw [hL'.uniq hL] at e6
  have hLl := lotsU_in hL.lot
  have hWb := pk_le (ws := ws) (l := L) gw.w fun i hi => by have := hLl.2 i hi; have := gw.len; omega
  have hps := g.l2
  -- the fair whole
  obtain ⟨fr, hfr⟩ : ∃ fr, fr = if pk ws L > 1 then pk ws L else 1 := ⟨_, rfl⟩
  have hfr1 : 1 ≤ fr ∧ pk ws L ≤ fr ∧ fr ≤ 600 := by
    rw [hfr]
    split <;> omega
  have hff : fairB reel ps ws fr = true := by rw [heavy_fair hL]; exact decide_eq_true hfr1.2.1
  have e7 := e_are_fair (k + 3) g gw (whole := 1 + w) (by omega) (by omega)
  rw [heavy_fair hL] at e7
  obtain ⟨cs, c1, c2, e8⟩ := e_fewest (k + 4) g
  have hlt := barred_lt gw.len c1 g.l1 c2 hff hfr1.1
  have gz : GoodW ps (List.replicate ps.length 0) := ⟨by simp, fun x hx => by have := List.eq_of_mem_replicate hx; omega⟩
  have e9 := e_barred (k + 3) g gz (whole := 1 + w) (by omega) (by omega) (zero_fair' reel ps (by omega))
  rw [barred_zero (by omega)] at e9
  -- few pieces
  have gf : GoodP reel (ps.take 4) := ⟨g.r1, g.r2, by have := g.l1; simp; omega, by simp; omega, fun x hx => g.p x (List.mem_of_mem_take hx)⟩
  have hf4 : (ps.take 4).length ≤ 5 := by simp; omega
  obtain ⟨v, s5, e10, h5, v0, v1⟩ := e_draw (k + 8) (limit := 3) (by omega) (by omega) s4 h4
  obtain ⟨m, hm⟩ : ∃ m : Nat, 1 + v = (m : Int) := ⟨(1 + v).toNat, by omega⟩
  obtain ⟨row, b1, e11⟩ := e_best_weights (k + 3) gf hf4 (m := m) (by omega) (by omega)
  obtain ⟨row', b2, e12⟩ := e_law_best (k + 6) (reel := reel) hf4 (m := m) (by omega)
  rw [b2.uniq b1] at e12
  have hrow := rowsU_in b1.mem
  have gr : GoodW (ps.take 4) row := ⟨hrow.1, fun x hx => by have := hrow.2 x hx; omega⟩
  have e13 := e_are_fair (k + 3) gf gr (whole := (m : Int)) (by omega) (by omega)
  rw [b1.fair] at e13
  have e14 := e_barred (k + 3) gf gr (whole := (m : Int)) (by omega) (by omega) b1.fair
  obtain ⟨cs2, d1, d2, e15⟩ := e_fewest (k + 4) gf
  have hlt2 := barred_lt gr.len d1 gf.l1 d2 b1.fair (by omega)
  refine ⟨s5, ?_, h5⟩
  rw [evF_at (f := F_law_is_right) rfl rfl]
  simp only [turnM_eq] at e4
  simp [F_law_is_right, -List.map_map] at e4 ⊢
  refine (bnd_ok (toD_ok e1)).trans ?_
  simp [-List.map_map]
  have fold : ∀ l : List Int, PyData.tuple (l.map PyData.int) = iT l := fun _ => rfl
  replace e5 : evF PP (k + 9) 26 [.d (.int reel), .d (iT ps), .d (iT ws)] = _ := e5
  replace e6 : evF PP (k + 9) 16 [.d (.int reel), .d (iT ps), .d (iT ws)] = _ := e6
  replace e7 : evF PP (k + 9) 15 [.d (.int reel), .d (iT ps), .d (iT ws), .d (.int (1 + w))] = _ := e7
  replace e8 : evF PP (k + 9) 19 [.d (.int reel), .d (iT ps)] = _ := e8
  replace e9 : evF PP (k + 9) 17 [.d (.int reel), .d (iT ps), .d (iT (List.replicate ps.length 0)), .d (.int (1 + w))] = _ := e9
  replace e11 : evF PP (k + 9) 18 [.d (.int reel), .d (iT (List.take 4 ps)), .d (.int (m : Int))] = _ := e11
  replace e12 : evF PP (k + 9) 27 [.d (.int reel), .d (iT (List.take 4 ps)), .d (.int (m : Int))] = _ := e12
  replace e13 : evF PP (k + 9) 15 [.d (.int reel), .d (iT (List.take 4 ps)), .d (iT row), .d (.int (m : Int))] = _ := e13
  replace e14 : evF PP (k + 9) 17 [.d (.int reel), .d (iT (List.take 4 ps)), .d (iT row), .d (.int (m : Int))] = _ := e14
  replace e15 : evF PP (k + 9) 19 [.d (.int reel), .d (iT (List.take 4 ps))] = _ := e15
  have p1 : ∀ (n : Int) (l : List Int), evF PP (k + 9) 22 [.d (pairT n l), .d (pairT n l)] = M.ret (.d (.bool true)) := fun n l => e_is_pair (k + 6) n l
  have p2 : ∀ b : Bool, evF PP (k + 9) 22 [.d (.bool b), .d (.bool b)] = M.ret (.d (.bool true)) := fun b => e_is_bool (k + 8) b
  have p3 : ∀ n : Int, evF PP (k + 9) 22 [.d (.int n), .d (.int n)] = M.ret (.d (.bool true)) := fun n => e_is_int (k + 8) n
  have hmx : biop .max [.int 1, .int (pk ws L)] = some (.int fr) := by rw [hfr]; rfl
  have hdv : binop .fdiv (.int (ws.sum + fr - 1)) (.int fr) = some (.int ((ws.sum + fr - 1) / fr)) := fdiv_pos (by omega) (by omega)
  have hbr : biop .max [.int 0, .int ((ws.sum + fr - 1) / fr - 1)] = some (.int (barredBy ws fr)) := by
    rw [bi_max_int]
    unfold barredBy
    by_cases z : 1 < (ws.sum + fr - 1) / fr
    · rw [if_pos z, if_pos (by omega)]
    · rw [if_neg z, if_neg (by omega)]
  refine (bnd_ok (show evF PP (k + 9) 21 [.hand, .d (.list [.int 4, .int 100])] s1 = _ from e2)).trans ?_
  refine (bnd_ok (toD_ok e3)).trans ?_
  simp [-List.map_map]
  refine (bnd_ok e4).trans ?_
  simp only [fold]
  have hbl : ¬ ((nr cs : Nat) : Int) ≤ barredBy ws fr := by omega
  have hz := mul_zeros (n := ps.length) (by omega)
  by_cases hc : pk ws L ≤ 100
  · have e16 : evF PP (k + 9) 17 [.d (.int reel), .d (iT ps), .d (iT ws), .d (.int fr)] = M.ret (.d (.int (barredBy ws fr))) := e_barred (k + 3) g gw (whole := fr) hfr1.1 (by rw [hfr]; split <;> omega) hff
    simp [e5, e6, e7, e8, e9, p1, p2, p3, e16, idx_pair0, hmx, hdv, hbr, hbl, hz, hc, slice4, -List.map_map]
    refine (bnd_ok (toD_ok e10)).trans ?_
    simp [setSs_c, setSs_n, hm, e11, e12, e13, e14, e15, p1, idx_pair1, isn_true, hlt2, -List.map_map]
    rfl
  · simp [e5, e6, e7, e8, e9, p1, p2, p3, idx_pair0, hmx, hdv, hbr, hbl, hz, hc, slice4, -List.map_map]
    refine (bnd_ok (toD_ok e10)).trans ?_
    simp [setSs_c, setSs_n, hm, e11, e12, e13, e14, e15, p1, idx_pair1, isn_true, hlt2, -List.map_map]
    rfl
end Wv

set_option Elab.async false
set_option autoImplicit false
set_option linter.all false
set_option maxRecDepth 100000
set_option maxHeartbeats 4000000
namespace Wv
open PySem PySem.W
theorem gP : GoodP 10 [6, 6, 4] := ⟨by decide +kernel, by decide +kernel, by decide +kernel, by decide +kernel, by decide +kernel⟩
theorem gW1 : GoodW [6, 6, 4] [1, 1, 0] := ⟨rfl, by decide +kernel⟩
theorem gW2 : GoodW [6, 6, 4] [1, 1, 1] := ⟨rfl, by decide +kernel⟩
theorem gW3 : GoodW [6, 6, 4] [3, 3, 2] := ⟨rfl, by decide +kernel⟩
theorem heavyC : IsHeavy 10 [6, 6, 4] [3, 3, 2] [0, 2] where
  lot := by decide +kernel
  fit := by decide +kernel
  max := by decide +kernel
  first := by
    intro l hl hf he
    rw [dl_iT]
    revert l
    decide +kernel
theorem bestC : IsBest 10 [6, 6, 4] 1 [1, 1, 0] where
  mem := by decide +kernel
  fair := by decide +kernel
  max := by decide +kernel
  first := by
    intro l hl hf he
    rw [dl_iT]
    revert l
    decide +kernel
theorem c1 : evF PP 12 15 [.d (.int 10), .d (.tuple [.int 6, .int 6, .int 4]), .d (.tuple [.int 1, .int 1, .int 0]), .d (.int 1)] = M.ret (.d (.bool true)) := by
  have h : fairB 10 [6, 6, 4] [1, 1, 0] 1 = true := by decide +kernel
  have e := e_are_fair 6 gP gW1 (whole := 1) (by decide +kernel) (by decide +kernel)
  rw [h] at e
  exact e
theorem c2 : evF PP 12 17 [.d (.int 10), .d (.tuple [.int 6, .int 6, .int 4]), .d (.tuple [.int 1, .int 1, .int 0]), .d (.int 1)] = M.ret (.d (.int 1)) := by
  have h : barredBy [1, 1, 0] 1 = 1 := by decide +kernel
  have e := e_barred 6 gP gW1 (whole := 1) (by decide +kernel) (by decide +kernel) (by decide +kernel)
  rw [h] at e
  exact e
theorem c3 : evF PP 12 15 [.d (.int 10), .d (.tuple [.int 6, .int 6, .int 4]), .d (.tuple [.int 1, .int 1, .int 1]), .d (.int 1)] = M.ret (.d (.bool false)) := by
  have h : fairB 10 [6, 6, 4] [1, 1, 1] 1 = false := by decide +kernel
  have e := e_are_fair 6 gP gW2 (whole := 1) (by decide +kernel) (by decide +kernel)
  rw [h] at e
  exact e
theorem c4 : evF PP 12 16 [.d (.int 10), .d (.tuple [.int 6, .int 6, .int 4]), .d (.tuple [.int 3, .int 3, .int 2])] = M.ret (.d (pairT 5 [0, 2])) := by
  obtain ⟨L, h, e⟩ := e_heaviest 6 gP gW3
  rw [h.uniq heavyC] at e
  exact e
theorem c5 : evF PP 12 18 [.d (.int 10), .d (.tuple [.int 6, .int 6, .int 4]), .d (.int 1)] = M.ret (.d (pairT 2 [1, 1, 0])) := by
  obtain ⟨L, h, e⟩ := e_best_weights 6 gP (m := 1) (by decide +kernel) (by decide +kernel) (by decide +kernel)
  rw [h.uniq bestC] at e
  exact e
theorem n1 : cmpop .ne (pairT 5 [0, 2]) (.tuple [.int 5, .tuple [.int 0, .int 2]]) = some false := by decide +kernel
theorem n2 : cmpop .ne (pairT 2 [1, 1, 0]) (.tuple [.int 2, .tuple [.int 1, .int 1, .int 0]]) = some false := by decide +kernel
theorem n3 : cmpop .isn (.bool false) (.bool false) = some false := rfl
theorem hand_ok (ns : List Int) : HOk (handOf (fun n => 373 + (n : Int)) ns) where
  cells := by
    intro x hx
    obtain ⟨y, _, rfl⟩ := List.mem_map.mp hx
    unfold absI
    split <;> omega
  pos := Int.le_refl _
  big := Int.le_refl _
theorem math : ∀ ns : List Int, ns.length ≤ 63 → ∃ s', evSs (evF PP 12) lawB (none :: some .hand :: List.replicate 1 none) (handOf (fun n => 373 + (n : Int)) ns) = .ok (.rt (.d (.bool true))) s' := by
  intro ns _
  obtain ⟨ys, s', e, _, hl, hy⟩ := compL_hand (f := fun y => noEx (turnM (evF PP 12) (.one 2) [2] none (.call 28 [.v 1]) [none, some .hand, none] y)) (c := fun i : Nat => PyData.int (i : Int)) HOk (fun _ y => y = .bool true) (List.range 5) _ (hand_ok ns) (fun i _ s hs => by
    obtain ⟨s', e, h⟩ := e_right 2 s hs
    refine ⟨.bool true, s', ?_, h, rfl⟩
    refine noEx_run ?_
    simp
    refine (bnd_ok (toD_ok e)).trans ?_
    rfl)
  have hall : biop .all [.list ys] = some (.bool true) := by
    have : ys = (ys.map fun _ => true).map PyData.bool := by
      rw [List.map_map]
      conv => lhs; rw [← List.map_id ys]
      refine List.map_congr_left fun y hy' => ?_
      obtain ⟨_, _, h⟩ := hy y hy'
      exact h
    rw [this, bi_all_list]
    simp
  refine ⟨s', ?_⟩
  have hr : rangeD [.int 5] = some ((List.range 5).map fun i : Nat => .int (i : Int)) := range_nat (n := 5) (by decide +kernel)
  simp only [turnM_eq] at e
  simp [-List.map_map] at e
  simp [lawB, c1, c2, c3, c4, c5, n1, n2, n3, isn_true, hr, -List.map_map]
  refine (bnd_ok e).trans ?_
  simp [hall]
  rfl
end Wv

set_option Elab.async false
set_option autoImplicit false
set_option maxRecDepth 100000
set_option maxHeartbeats 0
namespace Wv
open PySem PySem.Spec PyProof.Rows
section
variable {P : Program} {w : World} {K : PySem.W.Frag} {h : Heap} {mg : Str → Option Value}
theorem Dk_is_integer (X : K.In h) (G : h.Ns mainGlobals mg) (c : He.SaysD hfa hfn K) : DefOk K mg PP gl gc bn "is_integer" 0 1 := by
  obtain ⟨fd, F⟩ := c.def_ 0 (d := D_is_integer) rfl
  exact ⟨⟨"is_integer", "is_integer", S_is_integer, _, _, fd, N_is_integer, ["thing"], F_is_integer, rfl, F, Sc_is_integer, L2.FunD.bindsN F (fun _ _ _ _ _ _ us hl => match us, hl with | [_], _ => rfl), He.glo_ok X G (c.fact 0 (f := .glo "is_integer") rfl), K_is_integer, rfl, rfl, by decide, rfl⟩⟩
theorem Dk_is_within (X : K.In h) (G : h.Ns mainGlobals mg) (c : He.SaysD hfa hfn K) : DefOk K mg PP gl gc bn "is_within" 1 3 := by
  obtain ⟨fd, F⟩ := c.def_ 1 (d := D_is_within) rfl
  exact ⟨⟨"is_within", "is_within", S_is_within, _, _, fd, N_is_within, ["thing", "low", "high"], F_is_within, rfl, F, Sc_is_within, L2.FunD.bindsN F (fun _ _ _ _ _ _ us hl => match us, hl with | [_, _, _], _ => rfl), He.glo_ok X G (c.fact 1 (f := .glo "is_within") rfl), K_is_within, rfl, rfl, by decide, rfl⟩⟩
theorem Dk_is_sized (X : K.In h) (G : h.Ns mainGlobals mg) (c : He.SaysD hfa hfn K) : DefOk K mg PP gl gc bn "is_sized" 2 3 := by
  obtain ⟨fd, F⟩ := c.def_ 2 (d := D_is_sized) rfl
  exact ⟨⟨"is_sized", "is_sized", S_is_sized, _, _, fd, N_is_sized, ["thing", "low", "high"], F_is_sized, rfl, F, Sc_is_sized, L2.FunD.bindsN F (fun _ _ _ _ _ _ us hl => match us, hl with | [_, _, _], _ => rfl), He.glo_ok X G (c.fact 2 (f := .glo "is_sized") rfl), K_is_sized, rfl, rfl, by decide, rfl⟩⟩
theorem Dk_all_lots (X : K.In h) (G : h.Ns mainGlobals mg) (c : He.SaysD hfa hfn K) : DefOk K mg PP gl gc bn "all_lots" 3 1 := by
  obtain ⟨fd, F⟩ := c.def_ 3 (d := D_all_lots) rfl
  exact ⟨⟨"all_lots", "all_lots", S_all_lots, _, _, fd, N_all_lots, ["things"], F_all_lots, rfl, F, Sc_all_lots, L2.FunD.bindsN F (fun _ _ _ _ _ _ us hl => match us, hl with | [_], _ => rfl), He.glo_ok X G (c.fact 3 (f := .glo "all_lots") rfl), K_all_lots, rfl, rfl, by decide, rfl⟩⟩
theorem Dk_raw_are_pieces (X : K.In h) (G : h.Ns mainGlobals mg) (c : He.SaysD hfa hfn K) : DefOk K mg PP gl gc bn "raw_are_pieces" 4 2 := by
  obtain ⟨fd, F⟩ := c.def_ 4 (d := D_raw_are_pieces) rfl
  exact ⟨⟨"raw_are_pieces", "raw_are_pieces", S_raw_are_pieces, _, _, fd, N_raw_are_pieces, ["most", "thing"], F_raw_are_pieces, rfl, F, Sc_raw_are_pieces, L2.FunD.bindsN F (fun _ _ _ _ _ _ us hl => match us, hl with | [_, _], _ => rfl), He.glo_ok X G (c.fact 4 (f := .glo "raw_are_pieces") rfl), K_raw_are_pieces, rfl, rfl, by decide, rfl⟩⟩
theorem Dk_check_reel (X : K.In h) (G : h.Ns mainGlobals mg) (c : He.SaysD hfa hfn K) : DefOk K mg PP gl gc bn "check_reel" 5 1 := by
  obtain ⟨fd, F⟩ := c.def_ 5 (d := D_check_reel) rfl
  exact ⟨⟨"check_reel", "check_reel", S_check_reel, _, _, fd, N_check_reel, ["reel"], F_check_reel, rfl, F, Sc_check_reel, L2.FunD.bindsN F (fun _ _ _ _ _ _ us hl => match us, hl with | [_], _ => rfl), He.glo_ok X G (c.fact 5 (f := .glo "check_reel") rfl), K_check_reel, rfl, rfl, by decide, rfl⟩⟩
theorem Dk_check_pieces (X : K.In h) (G : h.Ns mainGlobals mg) (c : He.SaysD hfa hfn K) : DefOk K mg PP gl gc bn "check_pieces" 6 2 := by
  obtain ⟨fd, F⟩ := c.def_ 6 (d := D_check_pieces) rfl
  exact ⟨⟨"check_pieces", "check_pieces", S_check_pieces, _, _, fd, N_check_pieces, ["reel", "pieces"], F_check_pieces, rfl, F, Sc_check_pieces, L2.FunD.bindsN F (fun _ _ _ _ _ _ us hl => match us, hl with | [_, _], _ => rfl), He.glo_ok X G (c.fact 6 (f := .glo "check_pieces") rfl), K_check_pieces, rfl, rfl, by decide, rfl⟩⟩
theorem Dk_lengths_used (X : K.In h) (G : h.Ns mainGlobals mg) (c : He.SaysD hfa hfn K) : DefOk K mg PP gl gc bn "lengths_used" 7 2 := by
  obtain ⟨fd, F⟩ := c.def_ 7 (d := D_lengths_used) rfl
  exact ⟨⟨"lengths_used", "lengths_used", S_lengths_used, _, _, fd, N_lengths_used, ["pieces", "cuts"], F_lengths_used, rfl, F, Sc_lengths_used, L2.FunD.bindsN F (fun _ _ _ _ _ _ us hl => match us, hl with | [_, _], _ => rfl), He.glo_ok X G (c.fact 7 (f := .glo "lengths_used") rfl), K_lengths_used, rfl, rfl, by decide, rfl⟩⟩
theorem Dk_places_for (X : K.In h) (G : h.Ns mainGlobals mg) (c : He.SaysD hfa hfn K) : DefOk K mg PP gl gc bn "places_for" 8 4 := by
  obtain ⟨fd, F⟩ := c.def_ 8 (d := D_places_for) rfl
  exact ⟨⟨"places_for", "places_for", S_places_for, _, _, fd, N_places_for, ["reel", "pieces", "cuts", "many"], F_places_for, rfl, F, Sc_places_for, L2.FunD.bindsN F (fun _ _ _ _ _ _ us hl => match us, hl with | [_, _, _, _], _ => rfl), He.glo_ok X G (c.fact 8 (f := .glo "places_for") rfl), K_places_for, rfl, rfl, by decide, rfl⟩⟩
theorem Dk_all_cuts (X : K.In h) (G : h.Ns mainGlobals mg) (c : He.SaysD hfa hfn K) : DefOk K mg PP gl gc bn "all_cuts" 9 3 := by
  obtain ⟨fd, F⟩ := c.def_ 9 (d := D_all_cuts) rfl
  exact ⟨⟨"all_cuts", "all_cuts", S_all_cuts, _, _, fd, N_all_cuts, ["reel", "pieces", "many"], F_all_cuts, rfl, F, Sc_all_cuts, L2.FunD.bindsN F (fun _ _ _ _ _ _ us hl => match us, hl with | [_, _, _], _ => rfl), He.glo_ok X G (c.fact 9 (f := .glo "all_cuts") rfl), K_all_cuts, rfl, rfl, by decide, rfl⟩⟩
theorem Dk_best_cuts (X : K.In h) (G : h.Ns mainGlobals mg) (c : He.SaysD hfa hfn K) : DefOk K mg PP gl gc bn "best_cuts" 10 3 := by
  obtain ⟨fd, F⟩ := c.def_ 10 (d := D_best_cuts) rfl
  exact ⟨⟨"best_cuts", "best_cuts", S_best_cuts, _, _, fd, N_best_cuts, ["reel", "pieces", "many"], F_best_cuts, rfl, F, Sc_best_cuts, L2.FunD.bindsN F (fun _ _ _ _ _ _ us hl => match us, hl with | [_, _, _], _ => rfl), He.glo_ok X G (c.fact 10 (f := .glo "best_cuts") rfl), K_best_cuts, rfl, rfl, by decide, rfl⟩⟩
theorem Dk_check_weights (X : K.In h) (G : h.Ns mainGlobals mg) (c : He.SaysD hfa hfn K) : DefOk K mg PP gl gc bn "check_weights" 11 3 := by
  obtain ⟨fd, F⟩ := c.def_ 11 (d := D_check_weights) rfl
  exact ⟨⟨"check_weights", "check_weights", S_check_weights, _, _, fd, N_check_weights, ["reel", "pieces", "weights"], F_check_weights, rfl, F, Sc_check_weights, L2.FunD.bindsN F (fun _ _ _ _ _ _ us hl => match us, hl with | [_, _, _], _ => rfl), He.glo_ok X G (c.fact 11 (f := .glo "check_weights") rfl), K_check_weights, rfl, rfl, by decide, rfl⟩⟩
theorem Dk_fitting_lots (X : K.In h) (G : h.Ns mainGlobals mg) (c : He.SaysD hfa hfn K) : DefOk K mg PP gl gc bn "fitting_lots" 12 2 := by
  obtain ⟨fd, F⟩ := c.def_ 12 (d := D_fitting_lots) rfl
  exact ⟨⟨"fitting_lots", "fitting_lots", S_fitting_lots, _, _, fd, N_fitting_lots, ["reel", "pieces"], F_fitting_lots, rfl, F, Sc_fitting_lots, L2.FunD.bindsN F (fun _ _ _ _ _ _ us hl => match us, hl with | [_, _], _ => rfl), He.glo_ok X G (c.fact 12 (f := .glo "fitting_lots") rfl), K_fitting_lots, rfl, rfl, by decide, rfl⟩⟩
theorem Dk_raw_are_fair (X : K.In h) (G : h.Ns mainGlobals mg) (c : He.SaysD hfa hfn K) : DefOk K mg PP gl gc bn "raw_are_fair" 13 3 := by
  obtain ⟨fd, F⟩ := c.def_ 13 (d := D_raw_are_fair) rfl
  exact ⟨⟨"raw_are_fair", "raw_are_fair", S_raw_are_fair, _, _, fd, N_raw_are_fair, ["lots", "weights", "whole"], F_raw_are_fair, rfl, F, Sc_raw_are_fair, L2.FunD.bindsN F (fun _ _ _ _ _ _ us hl => match us, hl with | [_, _, _], _ => rfl), He.glo_ok X G (c.fact 13 (f := .glo "raw_are_fair") rfl), K_raw_are_fair, rfl, rfl, by decide, rfl⟩⟩
theorem Dk_check_whole (X : K.In h) (G : h.Ns mainGlobals mg) (c : He.SaysD hfa hfn K) : DefOk K mg PP gl gc bn "check_whole" 14 2 := by
  obtain ⟨fd, F⟩ := c.def_ 14 (d := D_check_whole) rfl
  exact ⟨⟨"check_whole", "check_whole", S_check_whole, _, _, fd, N_check_whole, ["whole", "most"], F_check_whole, rfl, F, Sc_check_whole, L2.FunD.bindsN F (fun _ _ _ _ _ _ us hl => match us, hl with | [_, _], _ => rfl), He.glo_ok X G (c.fact 14 (f := .glo "check_whole") rfl), K_check_whole, rfl, rfl, by decide, rfl⟩⟩
theorem Dk_are_fair (X : K.In h) (G : h.Ns mainGlobals mg) (c : He.SaysD hfa hfn K) : DefOk K mg PP gl gc bn "are_fair" 15 4 := by
  obtain ⟨fd, F⟩ := c.def_ 15 (d := D_are_fair) rfl
  exact ⟨⟨"are_fair", "are_fair", S_are_fair, _, _, fd, N_are_fair, ["reel", "pieces", "weights", "whole"], F_are_fair, rfl, F, Sc_are_fair, L2.FunD.bindsN F (fun _ _ _ _ _ _ us hl => match us, hl with | [_, _, _, _], _ => rfl), He.glo_ok X G (c.fact 15 (f := .glo "are_fair") rfl), K_are_fair, rfl, rfl, by decide, rfl⟩⟩
theorem Dk_heaviest_lot (X : K.In h) (G : h.Ns mainGlobals mg) (c : He.SaysD hfa hfn K) : DefOk K mg PP gl gc bn "heaviest_lot" 16 3 := by
  obtain ⟨fd, F⟩ := c.def_ 16 (d := D_heaviest_lot) rfl
  exact ⟨⟨"heaviest_lot", "heaviest_lot", S_heaviest_lot, _, _, fd, N_heaviest_lot, ["reel", "pieces", "weights"], F_heaviest_lot, rfl, F, Sc_heaviest_lot, L2.FunD.bindsN F (fun _ _ _ _ _ _ us hl => match us, hl with | [_, _, _], _ => rfl), He.glo_ok X G (c.fact 16 (f := .glo "heaviest_lot") rfl), K_heaviest_lot, rfl, rfl, by decide, rfl⟩⟩
theorem Dk_reels_barred (X : K.In h) (G : h.Ns mainGlobals mg) (c : He.SaysD hfa hfn K) : DefOk K mg PP gl gc bn "reels_barred" 17 4 := by
  obtain ⟨fd, F⟩ := c.def_ 17 (d := D_reels_barred) rfl
  exact ⟨⟨"reels_barred", "reels_barred", S_reels_barred, _, _, fd, N_reels_barred, ["reel", "pieces", "weights", "whole"], F_reels_barred, rfl, F, Sc_reels_barred, L2.FunD.bindsN F (fun _ _ _ _ _ _ us hl => match us, hl with | [_, _, _, _], _ => rfl), He.glo_ok X G (c.fact 17 (f := .glo "reels_barred") rfl), K_reels_barred, rfl, rfl, by decide, rfl⟩⟩
theorem Dk_best_weights (X : K.In h) (G : h.Ns mainGlobals mg) (c : He.SaysD hfa hfn K) : DefOk K mg PP gl gc bn "best_weights" 18 3 := by
  obtain ⟨fd, F⟩ := c.def_ 18 (d := D_best_weights) rfl
  exact ⟨⟨"best_weights", "best_weights", S_best_weights, _, _, fd, N_best_weights, ["reel", "pieces", "whole"], F_best_weights, rfl, F, Sc_best_weights, L2.FunD.bindsN F (fun _ _ _ _ _ _ us hl => match us, hl with | [_, _, _], _ => rfl), He.glo_ok X G (c.fact 18 (f := .glo "best_weights") rfl), K_best_weights, rfl, rfl, by decide, rfl⟩⟩
theorem Dk_fewest_reels (X : K.In h) (G : h.Ns mainGlobals mg) (c : He.SaysD hfa hfn K) : DefOk K mg PP gl gc bn "fewest_reels" 19 2 := by
  obtain ⟨fd, F⟩ := c.def_ 19 (d := D_fewest_reels) rfl
  exact ⟨⟨"fewest_reels", "fewest_reels", S_fewest_reels, _, _, fd, N_fewest_reels, ["reel", "pieces"], F_fewest_reels, rfl, F, Sc_fewest_reels, L2.FunD.bindsN F (fun _ _ _ _ _ _ us hl => match us, hl with | [_, _], _ => rfl), He.glo_ok X G (c.fact 19 (f := .glo "fewest_reels") rfl), K_fewest_reels, rfl, rfl, by decide, rfl⟩⟩
theorem Dk_law_draw (X : K.In h) (G : h.Ns mainGlobals mg) (c : He.SaysD hfa hfn K) : DefOk K mg PP gl gc bn "_law_draw" 20 2 := by
  obtain ⟨fd, F⟩ := c.def_ 20 (d := D_law_draw) rfl
  exact ⟨⟨"_law_draw", "_law_draw", S_law_draw, _, _, fd, N_law_draw, ["hand", "limit"], F_law_draw, rfl, F, Sc_law_draw, L2.FunD.bindsN F (fun _ _ _ _ _ _ us hl => match us, hl with | [_, _], _ => rfl), He.glo_ok X G (c.fact 20 (f := .glo "_law_draw") rfl), K_law_draw, rfl, rfl, by decide, rfl⟩⟩
theorem Dk_law_some (X : K.In h) (G : h.Ns mainGlobals mg) (c : He.SaysD hfa hfn K) : DefOk K mg PP gl gc bn "_law_some" 21 2 := by
  obtain ⟨fd, F⟩ := c.def_ 21 (d := D_law_some) rfl
  exact ⟨⟨"_law_some", "_law_some", S_law_some, _, _, fd, N_law_some, ["hand", "items"], F_law_some, rfl, F, Sc_law_some, L2.FunD.bindsN F (fun _ _ _ _ _ _ us hl => match us, hl with | [_, _], _ => rfl), He.glo_ok X G (c.fact 21 (f := .glo "_law_some") rfl), K_law_some, rfl, rfl, by decide, rfl⟩⟩
theorem Dk_law_is (X : K.In h) (G : h.Ns mainGlobals mg) (c : He.SaysD hfa hfn K) : DefOk K mg PP gl gc bn "_law_is" 22 2 := by
  obtain ⟨fd, F⟩ := c.def_ 22 (d := D_law_is) rfl
  exact ⟨⟨"_law_is", "_law_is", S_law_is, _, _, fd, N_law_is, ["thing", "due"], F_law_is, rfl, F, Sc_law_is, L2.FunD.bindsN F (fun _ _ _ _ _ _ us hl => match us, hl with | [_, _], _ => rfl), He.glo_ok X G (c.fact 22 (f := .glo "_law_is") rfl), K_law_is, rfl, rfl, by decide, rfl⟩⟩
theorem Dk_law_pieces (X : K.In h) (G : h.Ns mainGlobals mg) (c : He.SaysD hfa hfn K) : DefOk K mg PP gl gc bn "_law_pieces" 23 2 := by
  obtain ⟨fd, F⟩ := c.def_ 23 (d := D_law_pieces) rfl
  exact ⟨⟨"_law_pieces", "_law_pieces", S_law_pieces, _, _, fd, N_law_pieces, ["hand", "most"], F_law_pieces, rfl, F, Sc_law_pieces, L2.FunD.bindsN F (fun _ _ _ _ _ _ us hl => match us, hl with | [_, _], _ => rfl), He.glo_ok X G (c.fact 23 (f := .glo "_law_pieces") rfl), K_law_pieces, rfl, rfl, by decide, rfl⟩⟩
theorem Dk_law_lots_of (X : K.In h) (G : h.Ns mainGlobals mg) (c : He.SaysD hfa hfn K) : DefOk K mg PP gl gc bn "_law_lots_of" 24 1 := by
  obtain ⟨fd, F⟩ := c.def_ 24 (d := D_law_lots_of) rfl
  exact ⟨⟨"_law_lots_of", "_law_lots_of", S_law_lots_of, _, _, fd, N_law_lots_of, ["many"], F_law_lots_of, rfl, F, Sc_law_lots_of, L2.FunD.bindsN F (fun _ _ _ _ _ _ us hl => match us, hl with | [_], _ => rfl), He.glo_ok X G (c.fact 24 (f := .glo "_law_lots_of") rfl), K_law_lots_of, rfl, rfl, by decide, rfl⟩⟩
theorem Dk_law_fitting (X : K.In h) (G : h.Ns mainGlobals mg) (c : He.SaysD hfa hfn K) : DefOk K mg PP gl gc bn "_law_fitting" 25 2 := by
  obtain ⟨fd, F⟩ := c.def_ 25 (d := D_law_fitting) rfl
  exact ⟨⟨"_law_fitting", "_law_fitting", S_law_fitting, _, _, fd, N_law_fitting, ["reel", "pieces"], F_law_fitting, rfl, F, Sc_law_fitting, L2.FunD.bindsN F (fun _ _ _ _ _ _ us hl => match us, hl with | [_, _], _ => rfl), He.glo_ok X G (c.fact 25 (f := .glo "_law_fitting") rfl), K_law_fitting, rfl, rfl, by decide, rfl⟩⟩
theorem Dk_law_heaviest (X : K.In h) (G : h.Ns mainGlobals mg) (c : He.SaysD hfa hfn K) : DefOk K mg PP gl gc bn "_law_heaviest" 26 3 := by
  obtain ⟨fd, F⟩ := c.def_ 26 (d := D_law_heaviest) rfl
  exact ⟨⟨"_law_heaviest", "_law_heaviest", S_law_heaviest, _, _, fd, N_law_heaviest, ["reel", "pieces", "weights"], F_law_heaviest, rfl, F, Sc_law_heaviest, L2.FunD.bindsN F (fun _ _ _ _ _ _ us hl => match us, hl with | [_, _, _], _ => rfl), He.glo_ok X G (c.fact 26 (f := .glo "_law_heaviest") rfl), K_law_heaviest, rfl, rfl, by decide, rfl⟩⟩
theorem Dk_law_best (X : K.In h) (G : h.Ns mainGlobals mg) (c : He.SaysD hfa hfn K) : DefOk K mg PP gl gc bn "_law_best" 27 3 := by
  obtain ⟨fd, F⟩ := c.def_ 27 (d := D_law_best) rfl
  exact ⟨⟨"_law_best", "_law_best", S_law_best, _, _, fd, N_law_best, ["reel", "pieces", "whole"], F_law_best, rfl, F, Sc_law_best, L2.FunD.bindsN F (fun _ _ _ _ _ _ us hl => match us, hl with | [_, _, _], _ => rfl), He.glo_ok X G (c.fact 27 (f := .glo "_law_best") rfl), K_law_best, rfl, rfl, by decide, rfl⟩⟩
theorem Dk_law_is_right (X : K.In h) (G : h.Ns mainGlobals mg) (c : He.SaysD hfa hfn K) : DefOk K mg PP gl gc bn "_law_is_right" 28 1 := by
  obtain ⟨fd, F⟩ := c.def_ 28 (d := D_law_is_right) rfl
  exact ⟨⟨"_law_is_right", "_law_is_right", S_law_is_right, _, _, fd, N_law_is_right, ["hand"], F_law_is_right, rfl, F, Sc_law_is_right, L2.FunD.bindsN F (fun _ _ _ _ _ _ us hl => match us, hl with | [_], _ => rfl), He.glo_ok X G (c.fact 28 (f := .glo "_law_is_right") rfl), K_law_is_right, rfl, rfl, by decide, rfl⟩⟩
theorem gl_all (X : K.In h) (G : h.Ns mainGlobals mg) (c : He.SaysD hfa hfn K) : ∀ p ∈ gl, DefOk K mg PP gl gc bn p.1 p.2.1 p.2.2 :=
  (List.forall_mem_cons.mpr ⟨Dk_is_integer X G c, (List.forall_mem_cons.mpr ⟨Dk_is_within X G c, (List.forall_mem_cons.mpr ⟨Dk_is_sized X G c, (List.forall_mem_cons.mpr ⟨Dk_all_lots X G c, (List.forall_mem_cons.mpr ⟨Dk_raw_are_pieces X G c, (List.forall_mem_cons.mpr ⟨Dk_check_reel X G c, (List.forall_mem_cons.mpr ⟨Dk_check_pieces X G c, (List.forall_mem_cons.mpr ⟨Dk_lengths_used X G c, (List.forall_mem_cons.mpr ⟨Dk_places_for X G c, (List.forall_mem_cons.mpr ⟨Dk_all_cuts X G c, (List.forall_mem_cons.mpr ⟨Dk_best_cuts X G c, (List.forall_mem_cons.mpr ⟨Dk_check_weights X G c, (List.forall_mem_cons.mpr ⟨Dk_fitting_lots X G c, (List.forall_mem_cons.mpr ⟨Dk_raw_are_fair X G c, (List.forall_mem_cons.mpr ⟨Dk_check_whole X G c, (List.forall_mem_cons.mpr ⟨Dk_are_fair X G c, (List.forall_mem_cons.mpr ⟨Dk_heaviest_lot X G c, (List.forall_mem_cons.mpr ⟨Dk_reels_barred X G c, (List.forall_mem_cons.mpr ⟨Dk_best_weights X G c, (List.forall_mem_cons.mpr ⟨Dk_fewest_reels X G c, (List.forall_mem_cons.mpr ⟨Dk_law_draw X G c, (List.forall_mem_cons.mpr ⟨Dk_law_some X G c, (List.forall_mem_cons.mpr ⟨Dk_law_is X G c, (List.forall_mem_cons.mpr ⟨Dk_law_pieces X G c, (List.forall_mem_cons.mpr ⟨Dk_law_lots_of X G c, (List.forall_mem_cons.mpr ⟨Dk_law_fitting X G c, (List.forall_mem_cons.mpr ⟨Dk_law_heaviest X G c, (List.forall_mem_cons.mpr ⟨Dk_law_best X G c, (List.forall_mem_cons.mpr ⟨Dk_law_is_right X G c, (fun _ hp => nomatch hp)⟩)⟩)⟩)⟩)⟩)⟩)⟩)⟩)⟩)⟩)⟩)⟩)⟩)⟩)⟩)⟩)⟩)⟩)⟩)⟩)⟩)⟩)⟩)⟩)⟩)⟩)⟩)⟩)⟩)
theorem gc_all (X : K.In h) (G : h.Ns mainGlobals mg) (c : He.SaysD hfa hfn K) : ∀ p ∈ gc, ∃ v u, mg p.1 = some u ∧ L2.RelV v u ∧ ∀ H Z, Rep K H Z v p.2 :=
  (List.forall_mem_cons.mpr ⟨int_fact X G (c.fact 49 (f := .int "MOST_PIECES" 6) rfl), (List.forall_mem_cons.mpr ⟨int_fact X G (c.fact 50 (f := .int "MOST_REEL" 100) rfl), (List.forall_mem_cons.mpr ⟨int_fact X G (c.fact 51 (f := .int "MOST_PIECE_WEIGHT" 100) rfl), (List.forall_mem_cons.mpr ⟨int_fact X G (c.fact 52 (f := .int "MOST_WHOLE_TRIED" 3) rfl), (List.forall_mem_cons.mpr ⟨int_fact X G (c.fact 53 (f := .int "MOST_TRIED_PIECES" 5) rfl), (fun _ hp => nomatch hp)⟩)⟩)⟩)⟩)⟩)
theorem bn_all (X : K.In h) (G : h.Ns mainGlobals mg) (c : He.SaysD hfa hfn K) : ∀ x ∈ bn, mg x = none :=
  (List.forall_mem_cons.mpr ⟨He.free_ok X G (c.fact 31 (f := .free "isinstance") rfl), (List.forall_mem_cons.mpr ⟨He.free_ok X G (c.fact 32 (f := .free "bool") rfl), (List.forall_mem_cons.mpr ⟨He.free_ok X G (c.fact 33 (f := .free "int") rfl), (List.forall_mem_cons.mpr ⟨He.free_ok X G (c.fact 34 (f := .free "len") rfl), (List.forall_mem_cons.mpr ⟨He.free_ok X G (c.fact 35 (f := .free "tuple") rfl), (List.forall_mem_cons.mpr ⟨He.free_ok X G (c.fact 36 (f := .free "sorted") rfl), (List.forall_mem_cons.mpr ⟨He.free_ok X G (c.fact 37 (f := .free "all") rfl), (List.forall_mem_cons.mpr ⟨He.free_ok X G (c.fact 38 (f := .free "max") rfl), (List.forall_mem_cons.mpr ⟨He.free_ok X G (c.fact 39 (f := .free "zip") rfl), (List.forall_mem_cons.mpr ⟨He.free_ok X G (c.fact 40 (f := .free "enumerate") rfl), (List.forall_mem_cons.mpr ⟨He.free_ok X G (c.fact 41 (f := .free "min") rfl), (List.forall_mem_cons.mpr ⟨He.free_ok X G (c.fact 42 (f := .free "sum") rfl), (List.forall_mem_cons.mpr ⟨He.free_ok X G (c.fact 43 (f := .free "list") rfl), (List.forall_mem_cons.mpr ⟨He.free_ok X G (c.fact 44 (f := .free "range") rfl), (List.forall_mem_cons.mpr ⟨He.free_ok X G (c.fact 45 (f := .free "any") rfl), (List.forall_mem_cons.mpr ⟨He.free_ok X G (c.fact 46 (f := .free "dict") rfl), (List.forall_mem_cons.mpr ⟨He.free_ok X G (c.fact 47 (f := .free "str") rfl), (fun _ hp => nomatch hp)⟩)⟩)⟩)⟩)⟩)⟩)⟩)⟩)⟩)⟩)⟩)⟩)⟩)⟩)⟩)⟩)⟩)
theorem facts {f : Addr} (X : K.In h) (G : h.Ns mainGlobals mg) (hfa0 : mg ("law" : Str) = some (.ref f)) (c : He.SaysD hfa hfn K) :
    ∃ fd : FuncData, (∀ (s : Shared) (v : Value), BindsTo s fd ⟨[v], []⟩ [("script", v)]) ∧ ∀ base : Heap, K.In base → base.Ns mainGlobals mg → L2.FnOk P w K mg base (L2.CX P w) 13 f fd ["script"] (spLaw K) := by
  obtain ⟨fdH, FH⟩ := c.def_ 29 (d := D_law_hand) rfl
  obtain ⟨fd, F⟩ := c.def_ 30 (d := D_law) rfl
  have e := hfa0.symm.trans (He.glo_ok X G (c.fact 30 (f := .glo "law") rfl))
  cases e
  have b := L2.FunD.bindsA (ps := ["script"]) F fun _ _ _ _ _ _ us hl => match us, hl with | [_], _ => rfl
  have bH : L2.Binds K fdH ["script"] [] := L2.FunD.bindsN FH fun _ _ _ _ _ _ us hl => match us, hl with | [_], _ => rfl
  have gA : mg "abs" = none := He.free_ok X G (c.fact 48 (f := .free "abs") rfl)
  have gI : mg "int" = none := He.free_ok X G (c.fact 33 (f := .free "int") rfl)
  have gL : mg "len" = none := He.free_ok X G (c.fact 34 (f := .free "len") rfl)
  have hgc : ∀ x d, gc.lookup x = some d → ∃ v u, mg x = some u ∧ L2.RelV v u ∧ ∀ H Z, Rep K H Z v d := fun x d hl => gc_all X G c (x, d) (lookup_in hl)
  have hbn : ∀ x, bn.contains x = true → mg x = none := fun x hx => bn_all X G c x (by simpa using hx)
  have hD : ∀ x i np, gl.lookup x = some (i, np) → DefOk K mg PP gl gc bn x i np := fun x i np hl => gl_all X G c (x, (i, np)) (lookup_in hl)
  refine ⟨fd, fun s v => b s [v] rfl, fun base _ _ => ?_⟩
  have KH : L2.FnOk P w K mg base (L2.CX P w) 1 _ fdH [nScript] (spHand K (handOf (fun n => 373 + (n : Int)))) := ok_hand FH Sc_law_hand (by decide +kernel) (by decide +kernel) (by decide +kernel) (by decide +kernel) (by decide +kernel) (by decide +kernel) (by decide +kernel) rfl gA gI (by decide +kernel) fun X hmg hK hN hsc => pe_mix1 (by rw [hN]; rfl) (by rw [hsc]; exact .inl (by decide +kernel)) (by decide +kernel) (by decide +kernel) (by show X.env.scope.names.lookup _ = _; rw [hsc]; decide +kernel) (by rw [hmg]; exact gL)
  exact ok_law (PP := PP) (XR := fun _ _ _ _ _ => False) F Sc_law rfl rfl K_law (by decide +kernel) (by decide +kernel) (by decide +kernel) (by decide) KH FH.kp bH (He.glo_ok X G (c.fact 29 (f := .glo "_law_hand") rfl)) (all_ok hD hgc hbn 12) hgc hbn math
end
end Wv
open PySem PySem.W PySem.Calls PyProof.Rows
set_option maxRecDepth 100000 in
set_option maxHeartbeats 0 in
theorem PySem.Challenge.cw_wavehouse_k59_whole_fair_weights_that_ba_holds : PySem.Challenge.rw_wavehouse_k59_whole_fair_weights_that_ba.Holds := by
  w_on; o_law
  refine HandSHeadRun.head_any (r := Wv.OR) (q := view Wv.OR.prog [Wv.hlaw]) (H := Wv.hk) (ob := Wv.hob) (M := 6000) (loose := Wv.hloose) (d := HandSHeadRun.topDef Wv.OR.prog Wv.hlaw) (kwd := []) Wv.hob_eq
    (by kernel_rfl) (fun s => by kernel_rfl) Wv.hrun (by kernel_rfl) (by kernel_rfl) (by kernel_rfl) (by rfl) (by first | assumption | decide +kernel) (by decide +kernel) ⟨rfl, rfl, rfl, rfl, rfl, by decide +kernel⟩ ?hw ?hc
  case hw => w_witness2
  case hc =>
    refine Wv.walk_ofW (l := PySem.Challenge.rw_wavehouse_k59_whole_fair_weights_that_ba) (n := 63) (k := 13) (x := "script") (CX := fun w => L2.CX (PySem.Challenge.rw_wavehouse_k59_whole_fair_weights_that_ba).prog w) rfl (by decide) (by kernel_rfl) ⟨rfl, by decide, by decide⟩ ?F (fun _ _ _ _ _ z => Wv.cx_none z)
    intro w mg fa h Y G hmg0
    obtain ⟨K, KX, c⟩ := Y
    have hmg : mg ("law" : PySem.Str) = some (.ref fa) := by
      have e : (HandSHeadRun.topDef Wv.OR.prog Wv.hlaw).name = ("law" : PySem.Str) := by kernel_rfl
      rw [← e]
      exact hmg0
    obtain ⟨fd, hb, hF⟩ := Wv.facts (P := (PySem.Challenge.rw_wavehouse_k59_whole_fair_weights_that_ba).prog) (w := w) KX G hmg c
    exact ⟨K, fd, Wv.spLaw K, KX, hb, fun H a ns hl _ hS => ⟨a, ns, rfl, hS, hl, fun _ => rfl⟩, hF⟩
