import PyProof.Rows.All
import Wide.All
import OpenK.AllK
import Wide.FinOn
import HandS.ForMost
import HandS.ForExc
import HandS.Lambda
import HandS.EndTab
import HandS.TupAny
import HandS.Wide
import HandS.IsInst
import HandS.Zip
import HandS.HotCalls
import HandS.ExcIs
import HandS.SortInts
import HandS.TupLe
import HandS.Steps
import HandS.Style
import HandS.NoneIn
import HandS.Flow
import HandS.Small
import HandS.More
import HandS.Conv
import HandS.ExcValue
import HandS.HeadHook4
import HandS.HeadWalk
import HandS.Head2
import PySem.Challenge.RW_tryroad_k20_whole_callers
set_option Elab.async false
set_option linter.all false
set_option maxRecDepth 100000
set_option maxHeartbeats 0
set_option autoImplicit false
namespace MI
open PySem

/-- values: a tuple, and a list that nobody changes, stand for their items (fro: the script's); loc: a place of the heap -/
inductive A where
  | non | bl (b : Bool) | int (i : Int) | str (z : Str) | loc (n : Nat) | tup (xs : List A) | lst (xs : List A) | fro (xs : List A)

/-- what stands at a place; a dict that a loop walks is locked -/
inductive AO where
  | lst (xs : List A)
  | dic (lk : Bool) (kvs : List (L2.Key × A))
  | ins (c : Str) (fs : List (Str × A))

abbrev AH := List AO
abbrev ASt := List (Option A)

/-- built-in functions; methods of built-in types -/
inductive Bn where
  | len | all | min | max | sum | int | str | ord | sorted | list | tuple | listr | ssort | dict
inductive Bm where
  | append | index | get | join | split
/-- built-in types that isinstance is asked of -/
inductive Ty6 where
  | int | bool | str | tuple | list | dict
  deriving DecidableEq
mutual
inductive E where
  | var (i : Nat)
  | con (a : A)
  | glo (x : Str) (a : A)
  | bin (op : Operator) (a b : E)
  | neg (a : E)
  | cmp (op : CmpOp) (a b : E)
  | chn (op op' : CmpOp) (a b c : E)
  | and (a b : E)
  | or (a b : E)
  | not (a : E)
  | ite (c a b : E)
  | call (f : Str) (as : Es)
  | make (c : Str) (as : Es)
  | meth (o : E) (m : Str) (as : Es)
  | bi (b : Bn) (as : Es)
  | bm (o : E) (m : Bm) (as : Es)
  | isi (a : E) (t : Ty6)
  | fld (o : E) (f : Str)
  | ix (a b : E)
  | sl (a : E) (lo hi : Es)
  | lst (al : Bool) (es : Es)
  | tup (es : Es)
  | dic (kvs : Es)
  | comp (al : Bool) (el : E) (tg : Tg) (it : I) (ifs : Es) (own : List Nat)
  | told (b : E)
  | lrg (a b : E)
inductive Es where
  | nil
  | cons (e : E) (es : Es)
inductive I where
  | rng1 (a : E)
  | rng2 (a b : E)
  | seq (a : E)
  | enu (a : E)
  | zip (a b : E)
inductive Tg where
  | nm (i : Nat)
  | tp (ts : Tgs)
  | fl (o : E) (f : Str)
  | sb (o i : E)
inductive Tgs where
  | nil
  | cons (t : Tg) (ts : Tgs)
end
mutual
inductive S where
  | asg (t : Tg) (e : E)
  | exp (e : E)
  | ret (e : E)
  | ret0
  | ife (c : E) (a b : Ss)
  | fo (t : Tg) (it : I) (b : Ss)
  | wh (c : E) (b : Ss)
  | rai (c : Str)
  | pas
  | brk
  | cnt
inductive Ss where
  | nil
  | cons (s : S) (ss : Ss)
end

structure Fn where
  ps : Nat
  slots : Nat
  body : Ss
structure ClsI where
  init : Option Str
  meths : List (Str × Str)
  attrs : List Str
structure Prog where
  fns : List (Str × Fn)
  cls : List (Str × ClsI)
  told : List Str

/-- an expression's end -/
inductive R (α : Type) where
  | ok (a : α) (h : AH)
  | exc (c : Str) (h : AH)
  | bad
def R.bind {α β : Type} : R α → (α → AH → R β) → R β
  | .ok a h, k => k a h
  | .exc c h, _ => .exc c h
  | .bad, _ => .bad
def R.of {α : Type} (o : Option α) (h : AH) : R α := match o with | some a => .ok a h | none => .bad
/-- a statement's end -/
inductive F where
  | nx (s : ASt) (h : AH)
  | rt (v : A) (h : AH)
  | bk (s : ASt) (h : AH)
  | ct (s : ASt) (h : AH)
  | exc (c : Str) (s : ASt) (h : AH)
  | bad
def R.toF {α : Type} (s : ASt) : R α → (α → AH → F) → F
  | .ok a h, k => k a h
  | .exc c h, _ => .exc c s h
  | .bad, _ => .bad

/-- a walk: what the i-th turn finds; its end -/
structure It where
  nx : Nat → AH → Option (Option A)
  most : Nat
  lk : Option Nat

def listAt (h : AH) : A → Option (List A)
  | .lst xs => some xs
  | .fro xs => some xs
  | .loc l => match h[l]? with | some (.lst xs) => some xs | _ => none
  | _ => none
def seqAt (h : AH) : A → Option (List A)
  | .tup xs => some xs
  | a => listAt h a
def dicAt (h : AH) : A → Option (List (L2.Key × A))
  | .loc l => match h[l]? with | some (.dic _ kvs) => some kvs | _ => none
  | _ => none

def mapO {α β : Type} (f : α → Option β) : List α → Option (List β)
  | [] => some []
  | x :: xs => match f x with
    | none => none
    | some y => match mapO f xs with
      | none => none
      | some ys => some (y :: ys)
/-- the data that a value is, at most so deep -/
def dataOf (h : AH) : Nat → A → Option PyData
  | _, .non => some .none
  | _, .bl b => some (.bool b)
  | _, .int i => some (.int i)
  | _, .str z => some (.str z)
  | n + 1, .tup xs => (mapO (dataOf h n) xs).map .tuple
  | n + 1, .lst xs => (mapO (dataOf h n) xs).map .list
  | n + 1, .fro xs => (mapO (dataOf h n) xs).map .list
  | n + 1, .loc l => match h[l]? with | some (.lst xs) => (mapO (dataOf h n) xs).map .list | _ => none
  | 0, _ => none
def eqD (h : AH) (a b : A) : Option Bool :=
  match dataOf h 6 a, dataOf h 6 b with
  | some d, some e => if SeqAt.shaped d && SeqAt.shaped e then some (PyData.eqv d e) else none
  | _, _ => none
/-- two dicts: by their lengths -/
def eqK (ks ls : List (L2.Key × A)) : Option Bool := if ks.length = ls.length then (if ks.length = 0 then some true else none) else some false
/-- two lists: by their lengths first -/
def eqL (h : AH) (a b : A) : Option Bool :=
  match listAt h a, listAt h b with
  | some xs, some ys => if xs.length = ys.length then eqD h a b else some false
  | _, _ => eqD h a b
def eqA (h : AH) (a b : A) : Option Bool :=
  match a with
  | .str x => match b with
    | .str y => some (decide (x = y))
    | _ => eqD h a b
  | .loc l => match b with
    | .loc m => match h[l]?, h[m]? with
      | some (.dic false ks), some (.dic false ls) => eqK ks ls
      | _, _ => eqL h a b
    | _ => eqL h a b
  | _ => eqL h a b

/-- what a dict has -/
def getK {κ α : Type} [DecidableEq κ] (k : κ) : List (κ × α) → Option α
  | [] => none
  | p :: r => if p.1 = k then some p.2 else getK k r

def small (n : Nat) : Bool := decide (n ≤ 100000)
def mulOk (i j : Int) : Bool := decide (i.natAbs < 2 ^ 64) || decide (j.natAbs < 2 ^ 64) || (decide (i.natAbs < 2 ^ 1000) && decide (j.natAbs < 2 ^ 1000))
def binOp (h : AH) : Operator → A → A → Option A
  | .Add, .int i, .int j => some (.int (i + j))
  | .Add, .str x, .str y => if small (x.length + y.length) then some (.str (x ++ y)) else none
  | .Add, .tup x, .tup y => if small (x.length + y.length) then some (.tup (x ++ y)) else none
  | .Add, .lst x, .lst y => if small (x.length + y.length) then some (.lst (x ++ y)) else none
  | .Sub, .int i, .int j => some (.int (i - j))
  | .Mult, .int i, .int j => if mulOk i j then some (.int (i * j)) else none
  | .Mult, .lst x, .int j => if decide (0 ≤ j) && decide (j ≤ 1000) && decide (x.length ≤ 100) then some (.lst (List.replicate j.toNat x).flatten) else none
  | .Mult, .str x, .int j => if decide (0 ≤ j) && decide (j ≤ 1000) && decide (x.length ≤ 100) then some (.str ⟨((List.replicate j.toNat x.cps.toList).flatten).toArray⟩) else none
  | .FloorDiv, .int i, .int j => if decide (0 < j) && decide (j < 2 ^ 1000) then some (.int (i / j)) else none
  | .Mod, .int i, .int j => if decide (0 < j) then some (.int (i % j)) else none
  | .Pow, .int i, .int j => if decide (0 ≤ j) && decide (j ≤ 1000) && decide (0 ≤ i) && decide (i ≤ 1000) then some (.int (i ^ j.toNat)) else none
  | _, _, _ => none
def flatA : A → Bool
  | .non => true
  | .bl _ => true
  | .int _ => true
  | .str _ => true
  | _ => false
def keyA : A → Option L2.Key
  | .int i => some (.inl i)
  | .str z => some (.inr z)
  | _ => none
def toV : A → L2.V
  | .non => .non
  | .bl b => .bl b
  | .int i => .int i
  | .str z => .str z
  | _ => .non
/-- x in y -/
def inA (h : AH) (x y : A) : Option Bool :=
  match y with
  | .str z => match x with
    | .str w => match w.cps.toList with
      | [c] => some (decide (c ∈ z.cps.toList))
      | _ => none
    | _ => none
  | .loc l => match h[l]? with
    | some (.dic _ kvs) => match keyA x with
      | some k => some ((getK k kvs).isSome)
      | none => none
    | some (.lst xs) => if flatA x && xs.all flatA then some (L2.inV (toV x) (xs.map toV)) else none
    | _ => none
  | .tup xs => if flatA x && xs.all flatA then some (L2.inV (toV x) (xs.map toV)) else none
  | .lst xs => if flatA x && xs.all flatA then some (L2.inV (toV x) (xs.map toV)) else none
  | _ => none
def cmpOp (h : AH) : CmpOp → A → A → Option Bool
  | .Eq, a, b => eqA h a b
  | .NotEq, a, b => (eqA h a b).map (!·)
  | .Lt, .int i, .int j => some (decide (i < j))
  | .LtE, .int i, .int j => some (decide (i ≤ j))
  | .Gt, .int i, .int j => some (decide (j < i))
  | .GtE, .int i, .int j => some (decide (j ≤ i))
  | .LtE, .str x, .str y => some (!decide (y.cps.toList < x.cps.toList))
  | .Is, a, .non => some (match a with | .non => true | _ => false)
  | .IsNot, a, .non => some (match a with | .non => false | _ => true)
  | .Is, .bl a, .bl b => some (decide (a = b))
  | .IsNot, .bl a, .bl b => some (!decide (a = b))
  | .In, a, b => inA h a b
  | .NotIn, a, b => (inA h a b).map (!·)
  | _, _, _ => none
def ixA (h : AH) (a b : A) : Option A :=
  match a, b with
  | .str z, .int i => if small z.length then (L2.atI z.cps.toList i).map fun c => .str ⟨#[c]⟩ else none
  | .tup xs, .int i => L2.atI xs i
  | .lst xs, .int i => L2.atI xs i
  | .fro xs, .int i => L2.atI xs i
  | .loc l, b => match h[l]? with
    | some (.lst xs) => match b with
      | .int i => L2.atI xs i
      | _ => none
    | some (.dic _ kvs) => match keyA b with
      | some k => getK k kvs
      | none => none
    | _ => none
  | _, _ => none
def cutA {α : Type} (xs : List α) (lo hi : Option Int) : List α := (xs.drop (HT.sIx xs.length 0 lo)).take (HT.sIx xs.length xs.length hi - HT.sIx xs.length 0 lo)
def slA (h : AH) (a : A) (lo hi : Option Int) : Option A :=
  match a with
  | .tup xs => some (.tup (cutA xs lo hi))
  | .lst xs => some (.lst (cutA xs lo hi))
  | .str z => if small z.length then some (.str ⟨(cutA z.cps.toList lo hi).toArray⟩) else none
  | .loc l => match h[l]? with
    | some (.lst xs) => some (.lst (cutA xs lo hi))
    | _ => none
  | _ => none
/-- an optional part of a slice -/
def partA : List A → Option (Option Int)
  | [] => some none
  | [.int i] => some (some i)
  | _ => none
def isiA (h : AH) (a : A) (t : Ty6) : Option Bool :=
  match a with
  | .non => some false
  | .bl _ => some (decide (t = .bool) || decide (t = .int))
  | .int _ => some (decide (t = .int))
  | .str _ => some (decide (t = .str))
  | .tup _ => some (decide (t = .tuple))
  | .lst _ => some (decide (t = .list))
  | .fro _ => some (decide (t = .list))
  | .loc l => match h[l]? with
    | some (.lst _) => some (decide (t = .list))
    | some (.dic _ _) => some (decide (t = .dict))
    | _ => none
def boolsA : List A → Option (List Bool)
  | [] => some []
  | .bl b :: r => (boolsA r).map (b :: ·)
  | _ :: _ => none
def intsA : List A → Option (List Int)
  | [] => some []
  | .int i :: r => (intsA r).map (i :: ·)
  | _ :: _ => none
def strsA : List A → Option (List Str)
  | [] => some []
  | .str z :: r => (strsA r).map (z :: ·)
  | _ :: _ => none
def insI (i : Int) : List Int → List Int
  | [] => [i]
  | j :: r => if i ≤ j then i :: j :: r else j :: insI i r
def sortI : List Int → List Int
  | [] => []
  | i :: r => insI i (sortI r)
def insS (i : Str) : List Str → List Str
  | [] => [i]
  | j :: r => if j.cps.toList < i.cps.toList then j :: insS i r else i :: j :: r
def sortS : List Str → List Str
  | [] => []
  | i :: r => insS i (sortS r)
def lenA (h : AH) : A → Option Nat
  | .str z => if small z.length then some z.length else none
  | .tup xs => some xs.length
  | .lst xs => some xs.length
  | .fro xs => some xs.length
  | .loc l => match h[l]? with
    | some (.lst xs) => some xs.length
    | some (.dic false kvs) => some kvs.length
    | _ => none
  | _ => none
def sumI : List Int → Int
  | [] => 0
  | i :: r => i + sumI r
def keyV : L2.Key → A
  | .inl i => .int i
  | .inr z => .str z
/-- the items that sorted takes: a list's, a dict's keys -/
def toSort (h : AH) : A → Option (List A)
  | .loc l => match h[l]? with
    | some (.lst xs) => some xs
    | some (.dic false kvs) => some (kvs.map fun p => keyV p.1)
    | _ => none
  | .lst xs => some xs
  | _ => none
def sortA (xs : List A) : Option (List A) :=
  if decide (xs.length < 64) then
    match intsA xs with
    | some is => some ((sortI is).map A.int)
    | none => match strsA xs with
      | some zs => some ((sortS zs).map A.str)
      | none => none
  else none
def biOp (h : AH) (b : Bn) (as : List A) : Option A :=
  match b, as with
  | .len, [a] => (lenA h a).map fun n => .int n
  | .all, [a] => match listAt h a with
    | some xs => (boolsA xs).map fun bs => .bl (bs.all id)
    | none => none
  | .min, [.int i, .int j] => some (.int (if j < i then j else i))
  | .max, [.int i, .int j] => some (.int (if j > i then j else i))
  | .sum, [a] => match listAt h a with
    | some xs => (intsA xs).map fun is => .int (sumI is)
    | none => none
  | .int, [.bl b] => some (.int (if b then 1 else 0))
  | .int, [.int i] => some (.int i)
  | .str, [.int i] => if decide (i.natAbs < 2 ^ 1000) then some (.str (toString i)) else none
  | .ord, [.str z] => match z.cps.toList with
    | [c] => some (.int c)
    | _ => none
  | .sorted, [a] => match toSort h a with
    | some xs => (sortA xs).map .lst
    | none => none
  | .list, [a] => (seqAt h a).map .lst
  | .tuple, [.tup xs] => some (.tup xs)
  | .tuple, [a] => (listAt h a).map .tup
  | _, _ => none
def findV (y : L2.V) : Nat → List L2.V → Option Nat
  | _, [] => none
  | n, z :: r => if L2.eqV z y then some n else findV y (n + 1) r
def putKA (k : L2.Key) (v : A) (kvs : List (L2.Key × A)) : List (L2.Key × A) :=
  if (kvs.any fun p => decide (p.1 = k)) = true then kvs.map (fun p => if p.1 = k then (p.1, v) else p) else kvs ++ [(k, v)]
def putFA (f : Str) (v : A) : List (Str × A) → List (Str × A)
  | [] => [(f, v)]
  | p :: r => if p.1 = f then (f, v) :: r else p :: putFA f v r
def bmOp (m : Bm) (o : A) (as : List A) (h : AH) : R A :=
  match m with
  | .append => match o, as with
    | .loc l, [x] => match h[l]? with
      | some (.lst xs) => if small xs.length then .ok .non (h.set l (.lst (xs ++ [x]))) else .bad
      | _ => .bad
    | _, _ => .bad
  | .index => match as with
    | [x] => match listAt h o with
      | some xs => if flatA x && xs.all flatA then
          match findV (toV x) 0 (xs.map toV) with
          | some n => .ok (.int n) h
          | none => .bad
        else .bad
      | none => .bad
    | _ => .bad
  | .get => match dicAt h o with
    | some kvs => match as with
      | [k, d] => match keyA k with
        | some k => .ok ((getK k kvs).getD d) h
        | none => .bad
      | _ => .bad
    | none => .bad
  | .join => match o, as with
    | .str sep, [a] => match listAt h a with
      | some xs => match strsA xs with
        | some zs => if decide ((zs.map (·.length)).sum + zs.length * sep.length ≤ 100000) then .ok (.str (Txt.join sep zs)) h else .bad
        | none => .bad
      | none => .bad
    | _, _ => .bad
  | .split => .bad
/-- what a method of a built-in type is asked of -/
def recvOk (m : Bm) (x : A) (h : AH) : Bool :=
  match m with
  | .append => match x with
    | .loc l => match h[l]? with
      | some (.lst _) => true
      | _ => false
    | _ => false
  | .index => (listAt h x).isSome
  | .get => match x with
    | .loc l => match h[l]? with
      | some (.dic false _) => true
      | _ => false
    | _ => false
  | .join => match x with
    | .str _ => true
    | _ => false
  | .split => false
def wipeA (s : ASt) : List Nat → ASt
  | [] => s
  | v :: vs => (wipeA s vs).set v none
def nthA (h : AH) (a : A) (i : Nat) : Option (Option A) :=
  match listAt h a with
  | some xs => some xs[i]?
  | none => none
/-- a dict's key by its place, the dict locked -/
def keyAt (h : AH) (l i : Nat) : Option (Option A) :=
  match h[l]? with
  | some (.dic true kvs) => some (kvs[i]?.map fun p => keyV p.1)
  | _ => none
/-- the walk over a value; zip and enumerate make pairs; a dict is locked -/
def itA (a : A) (h : AH) : Option It :=
  match a with
  | .tup xs => some ⟨fun i _ => some xs[i]?, xs.length + 1, none⟩
  | .lst xs => some ⟨fun i _ => some xs[i]?, xs.length + 1, none⟩
  | .str z => if small z.length then some ⟨fun i _ => some ((z.cps.toList[i]?).map fun c => .str ⟨#[c]⟩), z.length + 1, none⟩ else none
  | .loc l => match h[l]? with
    | some (.lst xs) => some ⟨fun i h => nthA h (.loc l) i, xs.length + 1, none⟩
    | some (.dic false kvs) => some ⟨fun i h => keyAt h l i, kvs.length + 1, some l⟩
    | some (.dic true kvs) => some ⟨fun i h => keyAt h l i, kvs.length + 1, none⟩
    | _ => none
  | _ => none
def lockH (a : A) (h : AH) : AH :=
  match a with
  | .loc l => match h[l]? with
    | some (.dic false kvs) => h.set l (.dic true kvs)
    | _ => h
  | _ => h
/-- the dict may be unlocked behind the walk: it was not locked ahead of it -/
def lkOk (h : AH) : Option Nat → Bool
  | none => true
  | some l => match h[l]? with
    | some (.dic true _) => false
    | _ => true
def unlk (h : AH) : Option Nat → Option AH
  | none => some h
  | some l => match h[l]? with
    | some (.dic true kvs) => some (h.set l (.dic false kvs))
    | _ => none
def R.un {α : Type} (lk : Option Nat) : R α → R α
  | .ok a h => match unlk h lk with | some h' => .ok a h' | none => .bad
  | .exc c h => match unlk h lk with | some h' => .exc c h' | none => .bad
  | .bad => .bad
def F.un (lk : Option Nat) : F → F
  | .nx s h => match unlk h lk with | some h' => .nx s h' | none => .bad
  | .rt v h => match unlk h lk with | some h' => .rt v h' | none => .bad
  | .bk s h => match unlk h lk with | some h' => .bk s h' | none => .bad
  | .ct s h => match unlk h lk with | some h' => .ct s h' | none => .bad
  | .exc c s h => match unlk h lk with | some h' => .exc c s h' | none => .bad
  | .bad => .bad
def rngA (lo hi : Int) : Option It :=
  if decide (lo.natAbs < 1152921504606846976) && decide (hi.natAbs < 1152921504606846976) then
    some ⟨fun i _ => some (if i < (hi - lo).toNat then some (.int (lo + i)) else none), (hi - lo).toNat + 1, none⟩ else none
def enuA (a : A) (n : Nat) : It := ⟨fun i h => match listAt h a with | some xs => some (xs[i]?.map fun x => .tup [.int i, x]) | none => none, n + 1, none⟩
def zipL (a b : A) (n : Nat) : It := ⟨fun i h => match listAt h a, listAt h b with
  | some xs, some ys => some (match xs[i]?, ys[i]? with | some x, some y => some (.tup [x, y]) | _, _ => none)
  | _, _ => none, n + 1, none⟩
def zipT (xs ys : List A) : It := ⟨fun i _ => some (match xs[i]?, ys[i]? with | some x, some y => some (.tup [x, y]) | _, _ => none), xs.length + 1, none⟩
/-- a comprehension's turns -/
def compL (nx : Nat → AH → Option (Option A)) (bd : A → AH → R (Option A)) : Nat → Nat → List A → AH → R (List A)
  | 0, _, _, _ => .bad
  | f + 1, i, acc, h => match nx i h with
    | none => .bad
    | some none => .ok acc h
    | some (some x) => match bd x h with
      | .ok (some y) h' => if small acc.length then compL nx bd f (i + 1) (acc ++ [y]) h' else .bad
      | .ok none h' => compL nx bd f (i + 1) acc h'
      | .exc _ _ => .bad
      | .bad => .bad
def newL (al : Bool) (xs : List A) (h : AH) : R A := if al then .ok (.loc h.length) (h ++ [.lst xs]) else .ok (.lst xs) h
/-- a for's turns -/
def forL (nx : Nat → AH → Option (Option A)) (bd : A → ASt → AH → F) : Nat → Nat → ASt → AH → F
  | 0, _, _, _ => .bad
  | f + 1, i, s, h => match nx i h with
    | none => .bad
    | some none => .nx s h
    | some (some x) => match bd x s h with
      | .nx s' h' => forL nx bd f (i + 1) s' h'
      | .ct s' h' => forL nx bd f (i + 1) s' h'
      | .bk s' h' => .nx s' h'
      | r => r
def whileL (c : ASt → AH → R A) (bd : ASt → AH → F) : Nat → ASt → AH → F
  | 0, _, _ => .bad
  | f + 1, s, h => match c s h with
    | .ok (.bl true) h1 => match bd s h1 with
      | .nx s' h' => whileL c bd f s' h'
      | .ct s' h' => whileL c bd f s' h'
      | .bk s' h' => .nx s' h'
      | r => r
    | .ok (.bl false) h1 => .nx s h1
    | .exc e h1 => .exc e s h1
    | _ => .bad
def F.seq : F → (ASt → AH → F) → F
  | .nx s h, k => k s h
  | r, _ => r
def asBool : A → Option Bool
  | .bl b => some b
  | _ => none
/-- keys and values in turns -/
def pairsA : List A → Option (List (L2.Key × A))
  | [] => some []
  | [_] => none
  | x :: v :: r => match keyA x with
    | some k => (pairsA r).map ((k, v) :: ·)
    | none => none
def mkDic (ps : List (L2.Key × A)) : List (L2.Key × A) := ps.foldl (fun acc p => putKA p.1 p.2 acc) []
/-- the display's pairs are put into its dict, which was laid ahead of them -/
def dicPut (l : Nat) (vs : List A) (h : AH) : R A :=
  match pairsA vs with
  | some ps => if decide (ps.length ≤ 15) then
      match h[l]? with
      | some (.dic false []) => .ok (.loc l) (h.set l (.dic false (mkDic ps)))
      | _ => .bad
    else .bad
  | none => .bad
/-- list(range(i, j)) -/
def lrgA (i j : Int) : Option A := if decide (0 ≤ i) && decide (i ≤ 100000) && decide (0 ≤ j) && decide (j ≤ 100000) then some (.lst ((List.range (j - i).toNat).map fun k => .int (i + (k : Nat)))) else none
def tgsLen : Tgs → Nat
  | .nil => 0
  | .cons _ ts => tgsLen ts + 1
section
variable (Pg : Prog) (cf : Str → List A → AH → R A)
mutual
def evE : E → ASt → AH → R A
  | .var i, s, h => match s[i]? with
    | some (some v) => .ok v h
    | _ => .bad
  | .con a, _, h => .ok a h
  | .glo _ a, _, h => .ok a h
  | .bin op a b, s, h => (evE a s h).bind fun x h1 => (evE b s h1).bind fun y h2 => R.of (binOp h2 op x y) h2
  | .neg a, s, h => (evE a s h).bind fun x h1 => match x with | .int i => .ok (.int (-i)) h1 | _ => .bad
  | .cmp op a b, s, h => (evE a s h).bind fun x h1 => (evE b s h1).bind fun y h2 => R.of ((cmpOp h2 op x y).map .bl) h2
  | .chn op op' a b c, s, h => (evE a s h).bind fun x h1 => (evE b s h1).bind fun y h2 =>
      match cmpOp h2 op x y with
      | some true => (evE c s h2).bind fun z h3 => R.of ((cmpOp h3 op' y z).map .bl) h3
      | some false => .ok (.bl false) h2
      | none => .bad
  | .and a b, s, h => (evE a s h).bind fun x h1 => match x with
      | .bl true => (evE b s h1).bind fun y h2 => match y with | .bl k => .ok (.bl k) h2 | _ => .bad
      | .bl false => .ok (.bl false) h1
      | _ => .bad
  | .or a b, s, h => (evE a s h).bind fun x h1 => match x with
      | .bl false => (evE b s h1).bind fun y h2 => match y with | .bl k => .ok (.bl k) h2 | _ => .bad
      | .bl true => .ok (.bl true) h1
      | _ => .bad
  | .not a, s, h => (evE a s h).bind fun x h1 => match x with | .bl k => .ok (.bl (!k)) h1 | _ => .bad
  | .ite c a b, s, h => (evE c s h).bind fun x h1 => match x with
      | .bl true => evE a s h1
      | .bl false => evE b s h1
      | _ => .bad
  | .call f as, s, h => (evEs as s h).bind fun vs h1 => cf f vs h1
  | .make c as, s, h => (evEs as s h).bind fun vs h1 => match Pg.cls.lookup c with
      | some ci => match ci.init with
        | some g => (cf g (.loc h1.length :: vs) (h1 ++ [.ins c []])).bind fun v h2 => match v with | .non => .ok (.loc h1.length) h2 | _ => .bad
        | none => .bad
      | none => .bad
  | .meth o m as, s, h => (evE o s h).bind fun x h1 => match x with
      | .loc l => match h1[l]? with
        | some (.ins c fs) => match Pg.cls.lookup c with
          | some ci => match ci.meths.lookup m, fs.lookup m with
            | some g, none => (evEs as s h1).bind fun vs h2 => cf g (.loc l :: vs) h2
            | _, _ => .bad
          | none => .bad
        | _ => .bad
      | _ => .bad
  | .bi b as, s, h => (evEs as s h).bind fun vs h1 => R.of (biOp h1 b vs) h1
  | .bm o m as, s, h => (evE o s h).bind fun x h1 => if recvOk m x h1 then (evEs as s h1).bind fun vs h2 => bmOp m x vs h2 else .bad
  | .isi a t, s, h => (evE a s h).bind fun x h1 => R.of ((isiA h1 x t).map .bl) h1
  | .fld o f, s, h => (evE o s h).bind fun x h1 => match x with
      | .loc l => match h1[l]? with
        | some (.ins c fs) => match Pg.cls.lookup c with
          | some ci => if ci.attrs.contains f then R.of (fs.lookup f) h1 else .bad
          | none => .bad
        | _ => .bad
      | _ => .bad
  | .ix a b, s, h => (evE a s h).bind fun x h1 => (evE b s h1).bind fun y h2 => R.of (ixA h2 x y) h2
  | .sl a lo hi, s, h => (evE a s h).bind fun x h1 => ((evEs lo s h1).bind fun l h2 => R.of (partA l) h2).bind fun l h2 =>
      ((evEs hi s h2).bind fun u h3 => R.of (partA u) h3).bind fun u h3 => R.of (slA h3 x l u) h3
  | .lst al es, s, h => (evEs es s h).bind fun vs h1 => if small vs.length then newL al vs h1 else .bad
  | .tup es, s, h => (evEs es s h).bind fun vs h1 => if small vs.length then .ok (.tup vs) h1 else .bad
  | .dic kvs, s, h => (evEs kvs s (h ++ [.dic false []])).bind fun vs h1 => dicPut h.length vs h1
  | .comp al el tg it ifs own, s, h => (evI it s h).bind fun J h1 => if lkOk h J.lk then
      ((compL J.nx (fun x h2 => (evG tg x (wipeA s own) h2).bind fun s2 h3 => (evEs ifs s2 h3).bind fun bs h4 => match boolsA bs with
          | some bs => if bs.all id then (evE el s2 h4).bind fun y h5 => .ok (some y) h5 else .ok none h4
          | none => .bad) J.most 0 [] h1).bind fun ys h6 => newL al ys h6).un J.lk else .bad
  | .told b, s, h => match evE b s h with
      | .ok v h1 => .ok v h1
      | .exc c h1 => if Pg.told.contains c then .ok (.tup [.str "refused", .str c]) h1 else .bad
      | .bad => .bad
  | .lrg a b, s, h => (evE a s h).bind fun x h1 => (evE b s h1).bind fun y h2 => match x, y with | .int i, .int j => R.of (lrgA i j) h2 | _, _ => .bad
def evEs : Es → ASt → AH → R (List A)
  | .nil, _, h => .ok [] h
  | .cons e es, s, h => (evE e s h).bind fun x h1 => (evEs es s h1).bind fun xs h2 => .ok (x :: xs) h2
def evI : I → ASt → AH → R It
  | .rng1 a, s, h => (evE a s h).bind fun x h1 => match x with | .int j => R.of (rngA 0 j) h1 | _ => .bad
  | .rng2 a b, s, h => (evE a s h).bind fun x h1 => (evE b s h1).bind fun y h2 => match x, y with | .int i, .int j => R.of (rngA i j) h2 | _, _ => .bad
  | .seq a, s, h => (evE a s h).bind fun x h1 => R.of (itA x h1) (lockH x h1)
  | .enu a, s, h => (evE a s h).bind fun x h1 => match listAt h1 x with | some xs => .ok (enuA x xs.length) h1 | none => .bad
  | .zip a b, s, h => (evE a s h).bind fun x h1 => (evE b s h1).bind fun y h2 => match x, y with
      | .tup xs, .tup ys => .ok (zipT xs ys) h2
      | x, y => match listAt h2 x, listAt h2 y with
        | some xs, some _ => .ok (zipL x y xs.length) h2
        | _, _ => .bad
def evG : Tg → A → ASt → AH → R ASt
  | .nm i, v, s, h => .ok (s.set i (some v)) h
  | .tp ts, v, s, h => match v with
      | .tup xs => if xs.length = tgsLen ts then evGs ts xs s h else .bad
      | _ => .bad
  | .fl o f, v, s, h => (evE o s h).bind fun x h1 => match x with
      | .loc l => match h1[l]? with
        | some (.ins c fs) => match Pg.cls.lookup c with
          | some ci => if ci.attrs.contains f && decide (fs.length < 500) then .ok s (h1.set l (.ins c (putFA f v fs))) else .bad
          | none => .bad
        | _ => .bad
      | _ => .bad
  | .sb o i, v, s, h => (evE o s h).bind fun x h1 => (evE i s h1).bind fun y h2 => match x with
      | .loc l => match h2[l]? with
        | some (.dic false kvs) => match keyA y with
          | some k => if small kvs.length then .ok s (h2.set l (.dic false (putKA k v kvs))) else .bad
          | none => .bad
        | _ => .bad
      | _ => .bad
def evGs : Tgs → List A → ASt → AH → R ASt
  | .nil, vs, s, h => match vs with | [] => .ok s h | _ => .bad
  | .cons t ts, vs, s, h => match vs with
      | v :: r => (evG t v s h).bind fun s1 h1 => evGs ts r s1 h1
      | [] => .bad
end
mutual
def evS : S → ASt → AH → F
  | .asg t e, s, h => (evE Pg cf e s h).toF s fun v h1 => (evG Pg cf t v s h1).toF s fun s1 h2 => .nx s1 h2
  | .exp e, s, h => (evE Pg cf e s h).toF s fun _ h1 => .nx s h1
  | .ret e, s, h => (evE Pg cf e s h).toF s fun v h1 => .rt v h1
  | .ret0, _, h => .rt .non h
  | .ife c a b, s, h => (evE Pg cf c s h).toF s fun v h1 => match v with
      | .bl true => evSs a s h1
      | .bl false => evSs b s h1
      | _ => .bad
  | .fo t it b, s, h => (evI Pg cf it s h).toF s fun J h1 => if lkOk h J.lk then
      (forL J.nx (fun x s2 h2 => (evG Pg cf t x s2 h2).toF s2 fun s3 h3 => evSs b s3 h3) J.most 0 s h1).un J.lk else .bad
  | .wh c b, s, h => whileL (fun s2 h2 => evE Pg cf c s2 h2) (fun s2 h2 => evSs b s2 h2) 1000 s h
  | .rai c, s, h => .exc c s h
  | .pas, s, h => .nx s h
  | .brk, s, h => .bk s h
  | .cnt, s, h => .ct s h
def evSs : Ss → ASt → AH → F
  | .nil, s, h => .nx s h
  | .cons st ss, s, h => (evS st s h).seq fun s1 h1 => evSs ss s1 h1
end
end
/-- a def's end -/
def F.toR : F → R A
  | .nx _ h => .ok .non h
  | .rt v h => .ok v h
  | .exc c _ h => .exc c h
  | _ => .bad
def startA (n : Nat) (vs : List A) : ASt := vs.map some ++ List.replicate (n - vs.length) none
def runFn (Pg : Prog) (cf : Str → List A → AH → R A) (fn : Fn) (vs : List A) (h : AH) : R A :=
  if vs.length = fn.ps then (evSs Pg cf fn.body (startA fn.slots vs) h).toR else .bad
def callF (Pg : Prog) : Nat → Str → List A → AH → R A
  | 0, _, _, _ => .bad
  | k + 1, f, vs, h => match Pg.fns.lookup f with
    | some fn => runFn Pg (callF Pg k) fn vs h
    | none => .bad
end MI

namespace MI
open PySem L2

abbrev Rho := Nat → Addr
/-- an object that no place has -/
def Off (H : Hp) (r : Rho) (n : Nat) (a : Addr) (o : HO) : Prop := H a = some o ∧ ∀ l, l < n → r l ≠ a
/-- a tuple, a list of the written part -/
def KTup (K : PySem.W.Frag) (a : Addr) (xs : List V) : Prop :=
  ∃ (o : Obj) (its : Array Value) (n : Nat), K.lookup a = some o ∧ o.cls = .type "tuple" ∧ o.data = .seq its n ∧ its.size ≤ sizeLine ∧ Vals xs its.toList
def KLst (K : PySem.W.Frag) (a : Addr) (xs : List V) : Prop :=
  ∃ (o : Obj) (its : Array Value) (n : Nat), K.lookup a = some o ∧ o.cls = .type "list" ∧ o.dict = none ∧ o.data = .seq its n ∧ its.size ≤ sizeLine ∧ Vals xs its.toList
mutual
inductive RA (K : PySem.W.Frag) (H : Hp) (r : Rho) (n : Nat) : A → V → Prop
  | non : RA K H r n .non .non
  | bl (b : Bool) : RA K H r n (.bl b) (.bl b)
  | int (i : Int) : RA K H r n (.int i) (.int i)
  | str (z : Str) : RA K H r n (.str z) (.str z)
  | loc (l : Nat) (h : l < n) : RA K H r n (.loc l) (.ref (r l))
  | tup {a : Addr} {xs : List A} {vs : List V} : Off H r n a (.tup vs) → RAs K H r n xs vs → RA K H r n (.tup xs) (.ref a)
  | tupK {a : Addr} {xs : List A} {vs : List V} : KTup K a vs → RAs K H r n xs vs → RA K H r n (.tup xs) (.ref a)
  | lst {a : Addr} {xs : List A} {vs : List V} : Off H r n a (.lst vs) → RAs K H r n xs vs → RA K H r n (.lst xs) (.ref a)
  | fro {a : Addr} {o : Obj} {xs : List A} {vs : List V} : Off H r n a (.frz o (.lst vs)) → RAs K H r n xs vs → RA K H r n (.fro xs) (.ref a)
  | froK {a : Addr} {xs : List A} {vs : List V} : KLst K a vs → RAs K H r n xs vs → RA K H r n (.fro xs) (.ref a)
  | froL {a : Addr} {xs : List A} {vs : List V} : Off H r n a (.lst vs) → RAs K H r n xs vs → RA K H r n (.fro xs) (.ref a)
inductive RAs (K : PySem.W.Frag) (H : Hp) (r : Rho) (n : Nat) : List A → List V → Prop
  | nil : RAs K H r n [] []
  | cons {x : A} {v : V} {xs : List A} {vs : List V} : RA K H r n x v → RAs K H r n xs vs → RAs K H r n (x :: xs) (v :: vs)
end
/-- nothing, or a table -/
def Nt (H : Hp) (a : Addr) : Prop := ∀ o, H a = some o → ∃ ps, o = .tbl ps
theorem Nt.none {H : Hp} {a : Addr} (h : H a = none) : Nt H a := fun o e => by rw [h] at e; cases e
/-- what has gone on since: places stay, objects that no place has stay, new places are new -/
structure Ext0 (H : Hp) (r : Rho) (n : Nat) (H' : Hp) (r' : Rho) (n' : Nat) : Prop where
  le : n ≤ n'
  same : ∀ l, l < n → r' l = r l
  keep : ∀ a o, H a = some o → (∀ ps, o ≠ .tbl ps) → (∀ l, l < n → r l ≠ a) → H' a = some o
  dom : ∀ a, Nt H' a → Nt H a
  fresh : ∀ l, n ≤ l → l < n' → Nt H (r' l)
/-- .. and what is locked stays -/
structure Ext (H : Hp) (r : Rho) (n : Nat) (H' : Hp) (r' : Rho) (n' : Nat) : Prop extends Ext0 H r n H' r' n' where
  frz : ∀ a o u, H a = some (.frz o u) → H' a = some (.frz o u)
theorem Ext.refl (H : Hp) (r : Rho) (n : Nat) : Ext H r n H r n := ⟨⟨Nat.le_refl _, fun _ _ => rfl, fun _ _ h _ _ => h, fun _ h => h, fun l h1 h2 => absurd h2 (Nat.not_lt.mpr h1)⟩, fun _ _ _ h => h⟩
theorem Ext0.trans {H H1 H2 : Hp} {r r1 r2 : Rho} {n n1 n2 : Nat} (a : Ext0 H r n H1 r1 n1) (b : Ext0 H1 r1 n1 H2 r2 n2) : Ext0 H r n H2 r2 n2 where
  le := Nat.le_trans a.le b.le
  same := fun l h => (b.same l (Nat.lt_of_lt_of_le h a.le)).trans (a.same l h)
  keep := fun x o h t q => b.keep x o (a.keep x o h t q) t fun l hl e => by
    by_cases hn : l < n
    · rw [a.same l hn] at e
      exact q l hn e
    · have z := a.fresh l (Nat.not_lt.mp hn) hl
      rw [e] at z
      obtain ⟨ps, z⟩ := z o h
      exact t ps z
  dom := fun x h => a.dom x (b.dom x h)
  fresh := fun l h1 h2 => by
    by_cases hn : l < n1
    · rw [b.same l hn]
      exact a.fresh l h1 hn
    · exact a.dom _ (b.fresh l (Nat.not_lt.mp hn) h2)
theorem Ext.trans {H H1 H2 : Hp} {r r1 r2 : Rho} {n n1 n2 : Nat} (a : Ext H r n H1 r1 n1) (b : Ext H1 r1 n1 H2 r2 n2) : Ext H r n H2 r2 n2 := ⟨a.toExt0.trans b.toExt0, fun x o u h => b.frz x o u (a.frz x o u h)⟩
theorem Off.ext0 {H H' : Hp} {r r' : Rho} {n n' : Nat} {a : Addr} {o : HO} (e : Ext0 H r n H' r' n') (h : Off H r n a o) (t : ∀ ps, o ≠ .tbl ps) : Off H' r' n' a o := by
  refine ⟨e.keep a o h.1 t h.2, fun l hl z => ?_⟩
  by_cases hn : l < n
  · rw [e.same l hn] at z
    exact h.2 l hn z
  · have q := e.fresh l (Nat.not_lt.mp hn) hl
    rw [z] at q
    obtain ⟨ps, q⟩ := q o h.1
    exact t ps q
mutual
theorem RA.ext0 {K : PySem.W.Frag} {H H' : Hp} {r r' : Rho} {n n' : Nat} (e : Ext0 H r n H' r' n') : ∀ {x : A} {v : V}, RA K H r n x v → RA K H' r' n' x v
  | _, _, .non => .non
  | _, _, .bl b => .bl b
  | _, _, .int i => .int i
  | _, _, .str z => .str z
  | _, _, .loc l h => by
    rw [← e.same l h]
    exact .loc l (Nat.lt_of_lt_of_le h e.le)
  | _, _, .tup o h => .tup (o.ext0 e (fun _ z => by cases z)) (RAs.ext0 e h)
  | _, _, .tupK o h => .tupK o (RAs.ext0 e h)
  | _, _, .lst o h => .lst (o.ext0 e (fun _ z => by cases z)) (RAs.ext0 e h)
  | _, _, .fro o h => .fro (o.ext0 e (fun _ z => by cases z)) (RAs.ext0 e h)
  | _, _, .froK o h => .froK o (RAs.ext0 e h)
  | _, _, .froL o h => .froL (o.ext0 e (fun _ z => by cases z)) (RAs.ext0 e h)
theorem RAs.ext0 {K : PySem.W.Frag} {H H' : Hp} {r r' : Rho} {n n' : Nat} (e : Ext0 H r n H' r' n') : ∀ {xs : List A} {vs : List V}, RAs K H r n xs vs → RAs K H' r' n' xs vs
  | _, _, .nil => .nil
  | _, _, .cons a b => .cons (RA.ext0 e a) (RAs.ext0 e b)
end
theorem Off.ext {H H' : Hp} {r r' : Rho} {n n' : Nat} {a : Addr} {o : HO} (e : Ext H r n H' r' n') (h : Off H r n a o) (t : ∀ ps, o ≠ .tbl ps) : Off H' r' n' a o := h.ext0 e.toExt0 t
theorem RA.ext {K : PySem.W.Frag} {H H' : Hp} {r r' : Rho} {n n' : Nat} (e : Ext H r n H' r' n') {x : A} {v : V} (h : RA K H r n x v) : RA K H' r' n' x v := h.ext0 e.toExt0
theorem RAs.ext {K : PySem.W.Frag} {H H' : Hp} {r r' : Rho} {n n' : Nat} (e : Ext H r n H' r' n') {xs : List A} {vs : List V} (h : RAs K H r n xs vs) : RAs K H' r' n' xs vs := h.ext0 e.toExt0
section
variable {K : PySem.W.Frag} {H : Hp} {r : Rho} {n : Nat}
theorem RAs.length {xs : List A} {vs : List V} (h : RAs K H r n xs vs) : xs.length = vs.length := by
  induction xs generalizing vs with
  | nil => cases h; rfl
  | cons x xs ih => cases h with | cons a b => simp [ih b]
theorem RAs.get {xs : List A} {vs : List V} (h : RAs K H r n xs vs) {i : Nat} {x : A} (e : xs[i]? = some x) : ∃ v, vs[i]? = some v ∧ RA K H r n x v := by
  induction xs generalizing vs i with
  | nil => simp at e
  | cons y ys ih =>
    cases h with
    | cons a b =>
      cases i with
      | zero => simp at e; subst e; exact ⟨_, by simp, a⟩
      | succ i => simpa using ih b (by simpa using e)
theorem RAs.getN {xs : List A} {vs : List V} (h : RAs K H r n xs vs) {i : Nat} (e : xs[i]? = none) : vs[i]? = none := by
  have := h.length
  rw [List.getElem?_eq_none_iff] at e ⊢
  omega
theorem RAs.append {xs ys : List A} {vs us : List V} (h : RAs K H r n xs vs) (k : RAs K H r n ys us) : RAs K H r n (xs ++ ys) (vs ++ us) := by
  induction xs generalizing vs with
  | nil => cases h; exact k
  | cons x xs ih => cases h with | cons a b => exact .cons a (ih b)
theorem RAs.take {xs : List A} {vs : List V} (h : RAs K H r n xs vs) (m : Nat) : RAs K H r n (xs.take m) (vs.take m) := by
  induction xs generalizing vs m with
  | nil => cases h; simp; exact .nil
  | cons x xs ih =>
    cases h with
    | cons a b =>
      cases m with
      | zero => exact .nil
      | succ m => exact .cons a (ih b m)
theorem RAs.drop {xs : List A} {vs : List V} (h : RAs K H r n xs vs) (m : Nat) : RAs K H r n (xs.drop m) (vs.drop m) := by
  induction xs generalizing vs m with
  | nil => cases h; simp; exact .nil
  | cons x xs ih =>
    cases h with
    | cons a b =>
      cases m with
      | zero => exact .cons a b
      | succ m => exact ih b m
theorem RAs.rep {xs : List A} {vs : List V} (h : RAs K H r n xs vs) (m : Nat) : RAs K H r n (List.replicate m xs).flatten (List.replicate m vs).flatten := by
  induction m with
  | zero => exact .nil
  | succ m ih => simpa [List.replicate_succ] using h.append ih
end
/-- pairs of a dict, of an instance -/
inductive RKs {κ : Type} (K : PySem.W.Frag) (H : Hp) (r : Rho) (n : Nat) : List (κ × A) → List (κ × V) → Prop
  | nil : RKs K H r n [] []
  | cons {k : κ} {x : A} {v : V} {xs : List (κ × A)} {vs : List (κ × V)} : RA K H r n x v → RKs K H r n xs vs → RKs K H r n ((k, x) :: xs) ((k, v) :: vs)
theorem RKs.ext0 {κ : Type} {K : PySem.W.Frag} {H H' : Hp} {r r' : Rho} {n n' : Nat} (e : Ext0 H r n H' r' n') {xs : List (κ × A)} {vs : List (κ × V)} (h : RKs K H r n xs vs) : RKs K H' r' n' xs vs := by
  induction h with
  | nil => exact .nil
  | cons a _ ih => exact .cons (a.ext0 e) ih
theorem RKs.ext {κ : Type} {K : PySem.W.Frag} {H H' : Hp} {r r' : Rho} {n n' : Nat} (e : Ext H r n H' r' n') {xs : List (κ × A)} {vs : List (κ × V)} (h : RKs K H r n xs vs) : RKs K H' r' n' xs vs := h.ext0 e.toExt0
/-- what stands at a place -/
def RO (K : PySem.W.Frag) (ca : Str → Option Addr) (H : Hp) (r : Rho) (n : Nat) (a : Addr) : AO → Prop
  | .lst xs => ∃ vs, H a = some (.lst vs) ∧ RAs K H r n xs vs
  | .dic false kvs => ∃ vs, H a = some (.dK vs) ∧ RKs K H r n kvs vs
  | .dic true kvs => ∃ o vs, H a = some (.frz o (.dK vs)) ∧ RKs K H r n kvs vs
  | .ins c fs => ∃ C dx vs, ca c = some C ∧ H a = some (.ins C dx vs) ∧ RKs K H r n fs vs
structure Rel (K : PySem.W.Frag) (T : List (Addr × Str)) (ca : Str → Option Addr) (H : Hp) (r : Rho) (h : AH) : Prop where
  inj : ∀ i j, i < h.length → j < h.length → r i = r j → i = j
  obj : ∀ i o, h[i]? = some o → RO K ca H r h.length (r i) o
  tab : LamX.Tabs T H
theorem RO.sm {K : PySem.W.Frag} {ca : Str → Option Addr} {H : Hp} {r : Rho} {n : Nat} {a : Addr} {o : AO} (h : RO K ca H r n a o) : ∃ u, H a = some u ∧ (∀ ps, u ≠ .tbl ps) ∧ (∀ vs, u ≠ .tup vs) ∧ (∀ f, u ≠ .ext f) := by
  cases o with
  | lst xs =>
    obtain ⟨vs, e, _⟩ := h
    exact ⟨_, e, (fun _ z => by cases z), (fun _ z => by cases z), (fun _ z => by cases z)⟩
  | dic lk kvs =>
    cases lk with
    | false =>
      obtain ⟨vs, e, _⟩ := h
      exact ⟨_, e, (fun _ z => by cases z), (fun _ z => by cases z), (fun _ z => by cases z)⟩
    | true =>
      obtain ⟨o, vs, e, _⟩ := h
      exact ⟨_, e, (fun _ z => by cases z), (fun _ z => by cases z), (fun _ z => by cases z)⟩
  | ins c fs =>
    obtain ⟨C, dx, vs, _, e, _⟩ := h
    exact ⟨_, e, (fun _ z => by cases z), (fun _ z => by cases z), (fun _ z => by cases z)⟩
section
variable {K : PySem.W.Frag} {T : List (Addr × Str)} {ca : Str → Option Addr} {H : Hp} {r : Rho} {h : AH}
theorem Rel.sm (R : Rel K T ca H r h) {l : Nat} (hl : l < h.length) : ∃ u, H (r l) = some u ∧ (∀ ps, u ≠ .tbl ps) ∧ (∀ vs, u ≠ .tup vs) ∧ (∀ f, u ≠ .ext f) :=
  (R.obj l _ (List.getElem?_eq_getElem hl)).sm
theorem Rel.notNew (R : Rel K T ca H r h) {p : Addr} (hp : H p = none) : ∀ l, l < h.length → r l ≠ p := fun l hl e => by
  obtain ⟨u, q, _⟩ := R.sm hl
  rw [e, hp] at q
  cases q
/-- a new object that gets no place -/
theorem Ext.new (r : Rho) (n : Nat) {p : Addr} {o : HO} (hp : H p = none) : Ext H r n (upd H p o) r n where
  le := Nat.le_refl _
  same := fun _ _ => rfl
  keep := fun a u e _ _ => by
    rw [upd_ne (ne_of_none e hp)]
    exact e
  dom := fun a e => by
    by_cases z : a = p
    · rw [z]
      exact Nt.none hp
    · intro u hu
      exact e u (by rw [upd_ne z]; exact hu)
  fresh := fun l h1 h2 => absurd h2 (Nat.not_lt.mpr h1)
  frz := fun a u w e => by
    rw [upd_ne (ne_of_none e hp)]
    exact e
theorem RO.ext0 {n : Nat} {H' : Hp} {r' : Rho} {n' : Nat} {a : Addr} {o : AO} (e : Ext0 H r n H' r' n') (ha : H' a = H a) (x : RO K ca H r n a o) : RO K ca H' r' n' a o := by
  cases o with
  | lst xs =>
    obtain ⟨vs, q, z⟩ := x
    exact ⟨vs, ha.trans q, z.ext0 e⟩
  | dic lk kvs =>
    cases lk with
    | false =>
      obtain ⟨vs, q, z⟩ := x
      exact ⟨vs, ha.trans q, z.ext0 e⟩
    | true =>
      obtain ⟨o, vs, q, z⟩ := x
      exact ⟨o, vs, ha.trans q, z.ext0 e⟩
  | ins c fs =>
    obtain ⟨C, dx, vs, q1, q, z⟩ := x
    exact ⟨C, dx, vs, q1, ha.trans q, z.ext0 e⟩
theorem RO.ext {n : Nat} {H' : Hp} {r' : Rho} {n' : Nat} {a : Addr} {o : AO} (e : Ext H r n H' r' n') (ha : H' a = H a) (x : RO K ca H r n a o) : RO K ca H' r' n' a o := x.ext0 e.toExt0 ha
theorem Tabs.new {p : Addr} {o : HO} (t : LamX.Tabs T H) (hp : H p = none) : LamX.Tabs T (upd H p o) := t.ext fun b u e => by
  rw [upd_ne (ne_of_none e hp)]
  exact e
theorem Rel.new (R : Rel K T ca H r h) {p : Addr} {o : HO} (hp : H p = none) : Rel K T ca (upd H p o) r h where
  inj := R.inj
  obj := fun i u e => (R.obj i u e).ext (Ext.new r _ hp) (upd_ne (R.notNew hp i (List.getElem?_eq_some_iff.mp e).1))
  tab := Tabs.new R.tab hp
/-- one more place, at p -/
def grow (r : Rho) (n : Nat) (p : Addr) : Rho := fun l => if l = n then p else r l
theorem grow_at (r : Rho) (n : Nat) (p : Addr) : grow r n p n = p := if_pos rfl
theorem grow_lt {r : Rho} {n : Nat} {p : Addr} {l : Nat} (h : l < n) : grow r n p l = r l := if_neg (Nat.ne_of_lt h)
/-- a new object that gets the next place -/
theorem Ext.grow {n : Nat} {p : Addr} {o : HO} (hp : H p = none) : Ext H r n (upd H p o) (grow r n p) (n + 1) where
  le := Nat.le_succ _
  same := fun l hl => grow_lt hl
  keep := fun a u e _ _ => by
    rw [upd_ne (ne_of_none e hp)]
    exact e
  dom := (Ext.new r n hp).dom
  fresh := fun l h1 h2 => by
    have e : l = n := by omega
    rw [e, grow_at]
    exact Nt.none hp
  frz := (Ext.new r n hp).frz
theorem Rel.grow (R : Rel K T ca H r h) {p : Addr} {o : HO} {u : AO} (hp : H p = none) (hu : RO K ca (upd H p o) (grow r h.length p) (h.length + 1) p u) : Rel K T ca (upd H p o) (grow r h.length p) (h ++ [u]) where
  inj := fun i j hi hj e => by
    rw [List.length_append] at hi hj
    simp only [List.length_cons, List.length_nil] at hi hj
    by_cases h1 : i < h.length
    · by_cases h2 : j < h.length
      · rw [grow_lt h1, grow_lt h2] at e
        exact R.inj i j h1 h2 e
      · have ej : j = h.length := by omega
        rw [grow_lt h1, ej, grow_at] at e
        exact (R.notNew hp i h1 e).elim
    · have ei : i = h.length := by omega
      by_cases h2 : j < h.length
      · rw [grow_lt h2, ei, grow_at] at e
        exact (R.notNew hp j h2 e.symm).elim
      · omega
  obj := fun i w e => by
    rw [List.length_append]
    by_cases h1 : i < h.length
    · rw [List.getElem?_append_left h1] at e
      rw [grow_lt h1]
      exact (R.obj i w e).ext (Ext.grow hp) (upd_ne (R.notNew hp i h1))
    · have hi : i < (h ++ [u]).length := (List.getElem?_eq_some_iff.mp e).1
      rw [List.length_append] at hi
      have ei : i = h.length := by simp at hi; omega
      subst ei
      rw [List.getElem?_append_right (Nat.le_refl _)] at e
      simp at e
      subst e
      rw [grow_at]
      exact hu
  tab := Tabs.new R.tab hp
/-- a place is written -/
theorem Ext0.put {n : Nat} {l : Nat} {o u : HO} (hl : l < n) (he : H (r l) = some u) (ho : ∀ ps, o ≠ .tbl ps := by intro _ z; cases z) : Ext0 H r n (upd H (r l) o) r n where
  le := Nat.le_refl _
  same := fun _ _ => rfl
  keep := fun a w e _ q => by
    rw [upd_ne (fun z => q l hl z.symm)]
    exact e
  dom := fun a e => by
    by_cases z : a = r l
    · obtain ⟨ps, z⟩ := e o (by rw [z, upd_same])
      exact absurd z (ho ps)
    · intro u hu
      exact e u (by rw [upd_ne z]; exact hu)
  fresh := fun l h1 h2 => absurd h2 (Nat.not_lt.mpr h1)
theorem Ext.put {n : Nat} {l : Nat} {o u : HO} (hl : l < n) (he : H (r l) = some u) (ho : ∀ ps, o ≠ .tbl ps := by intro _ z; cases z) (hu : ∀ o' u', u ≠ .frz o' u' := by intro _ _ z; cases z) : Ext H r n (upd H (r l) o) r n where
  toExt0 := Ext0.put hl he ho
  frz := fun a o' u' e => by
    rw [upd_ne (fun z => hu o' u' (Option.some.inj (he.symm.trans (by rw [← z]; exact e))))]
    exact e
theorem Rel.put (R : Rel K T ca H r h) {l : Nat} {o : HO} {u : AO} (hl : l < h.length) (hu : RO K ca (upd H (r l) o) r h.length (r l) u) : Rel K T ca (upd H (r l) o) r (h.set l u) where
  inj := fun i j hi hj e => by
    rw [List.length_set] at hi hj
    exact R.inj i j hi hj e
  obj := fun i w e => by
    rw [List.length_set]
    obtain ⟨q, eq, _⟩ := R.sm hl
    by_cases hi : l = i
    · subst hi
      rw [List.getElem?_set_self hl] at e
      cases e
      exact hu
    · rw [List.getElem?_set_ne hi] at e
      exact (R.obj i w e).ext0 (Ext0.put hl eq (fun ps z => by
        obtain ⟨u', q1, q2, _⟩ := hu.sm
        rw [upd_same] at q1
        exact q2 ps ((Option.some.inj q1).symm.trans z))) (upd_ne fun z => hi (R.inj i l (List.getElem?_eq_some_iff.mp e).1 hl z).symm)
  tab := fun p hp => by
    obtain ⟨q, eq, n1, n2, n3⟩ := R.sm hl
    obtain ⟨ps, a1, a2, a3⟩ := R.tab p hp
    have ne1 : ∀ b w, H b = some w → w ≠ q → b ≠ r l := fun b w e d z => d (Option.some.inj ((e.symm.trans (by rw [z])).trans eq))
    refine ⟨ps, by rw [upd_ne (ne1 _ _ a1 (fun z => n1 ps z.symm))]; exact a1, a2, fun pos cv hc => ?_⟩
    obtain ⟨c, e1, e2⟩ := a3 pos cv hc
    exact ⟨c, e1, by rw [upd_ne (ne1 _ _ e2 (fun z => n3 _ z.symm))]; exact e2⟩
end
/-- the slots -/
structure RSt (K : PySem.W.Frag) (H : Hp) (r : Rho) (n : Nat) (s : ASt) (t : L2.St) : Prop where
  len : s.length = t.length
  at_ : ∀ (i : Nat) (a : A), s[i]? = some (some a) → ∃ v, t[i]? = some (some v) ∧ RA K H r n a v
theorem RSt.ext {K : PySem.W.Frag} {H H' : Hp} {r r' : Rho} {n n' : Nat} {s : ASt} {t : L2.St} (e : Ext H r n H' r' n') (x : RSt K H r n s t) : RSt K H' r' n' s t :=
  ⟨x.len, fun i a q => let ⟨v, h1, h2⟩ := x.at_ i a q; ⟨v, h1, h2.ext e⟩⟩
theorem RSt.ext0 {K : PySem.W.Frag} {H H' : Hp} {r r' : Rho} {n n' : Nat} {s : ASt} {t : L2.St} (e : Ext0 H r n H' r' n') (x : RSt K H r n s t) : RSt K H' r' n' s t :=
  ⟨x.len, fun i a q => let ⟨v, h1, h2⟩ := x.at_ i a q; ⟨v, h1, h2.ext0 e⟩⟩
theorem RSt.set {K : PySem.W.Frag} {H : Hp} {r : Rho} {n : Nat} {s : ASt} {t : L2.St} {a : A} {v : V} (x : RSt K H r n s t) (i : Nat) (h : RA K H r n a v) : RSt K H r n (s.set i (some a)) (t.set i (some v)) := by
  refine ⟨by rw [List.length_set, List.length_set]; exact x.len, fun j b q => ?_⟩
  by_cases hj : i = j
  · subst hj
    by_cases hi : i < s.length
    · rw [List.getElem?_set_self hi] at q
      cases q
      exact ⟨v, List.getElem?_set_self (x.len ▸ hi), h⟩
    · rw [List.getElem?_eq_none (by simpa using hi)] at q
      cases q
  · rw [List.getElem?_set_ne hj] at q ⊢
    exact x.at_ j b q
theorem RSt.wipe1 {K : PySem.W.Frag} {H : Hp} {r : Rho} {n : Nat} {s : ASt} {t : L2.St} (x : RSt K H r n s t) (i : Nat) : RSt K H r n (s.set i none) (t.set i none) := by
  refine ⟨by rw [List.length_set, List.length_set]; exact x.len, fun j b q => ?_⟩
  by_cases hj : i = j
  · subst hj
    by_cases hi : i < s.length
    · rw [List.getElem?_set_self hi] at q
      cases q
    · rw [List.getElem?_eq_none (by simpa using hi)] at q
      cases q
  · rw [List.getElem?_set_ne hj] at q ⊢
    exact x.at_ j b q
theorem RSt.wipe {K : PySem.W.Frag} {H : Hp} {r : Rho} {n : Nat} {s : ASt} {t : L2.St} (x : RSt K H r n s t) : ∀ vs : List Nat, RSt K H r n (wipeA s vs) (wipe t vs)
  | [] => x
  | v :: vs => (RSt.wipe x vs).wipe1 v

section
variable (K : PySem.W.Frag) (T : List (Addr × Str)) (ca : Str → Option Addr)
/-- behind an end of the small language: whatever the new heap is like, so long as it stands so -/
def Post {α β : Type} (Rv : Hp → Rho → Nat → α → β → Prop) (W : Value → Option Addr → Hp → Prop) (H : Hp) (r : Rho) (n : Nat) : R α → (β → Hp → Prop) → Prop
  | .ok v h', Q => ∀ r' H' u, Ext H r n H' r' h'.length → Rel K T ca H' r' h' → Rv H' r' h'.length v u → Q u H'
  | .exc c h', _ => ∀ C r' H', ca c = some C → Ext H r n H' r' h'.length → Rel K T ca H' r' h' → W (.ref C) none H'
  | .bad, _ => False
def tM (W : WX) (m : ASt → AH → R A) : TE := fun t H Q => ∃ (r : Rho) (s : ASt) (h : AH), Rel K T ca H r h ∧ RSt K H r h.length s t ∧ Post K T ca (RA K) (fun c d H' => W c d t H') H r h.length (m s h) Q
def aM (W : WX) (m : ASt → AH → R (List A)) : TA := fun t H Q => ∃ (r : Rho) (s : ASt) (h : AH), Rel K T ca H r h ∧ RSt K H r h.length s t ∧ Post K T ca (RAs K) (fun c d H' => W c d t H') H r h.length (m s h) Q
/-- a test -/
def RBool (_ : Hp) (_ : Rho) (_ : Nat) (a : A) (b : Bool) : Prop := a = .bl b
def bM (W : WX) (m : ASt → AH → R A) : TT := fun t H Q => ∃ (r : Rho) (s : ASt) (h : AH), Rel K T ca H r h ∧ RSt K H r h.length s t ∧ Post K T ca RBool (fun c d H' => W c d t H') H r h.length ((m s h).bind fun v h1 => match v with | .bl b => .ok (.bl b) h1 | _ => .bad) Q
end
section
variable {K : PySem.W.Frag} {T : List (Addr × Str)} {ca : Str → Option Addr} {W : Value → Option Addr → Hp → Prop} {H : Hp} {r : Rho} {n : Nat}
theorem Post.bind {α β γ δ : Type} {Rv : Hp → Rho → Nat → α → β → Prop} {Rw : Hp → Rho → Nat → γ → δ → Prop} {x : R α} {k : α → AH → R γ} {Q : δ → Hp → Prop} {Q' : β → Hp → Prop} (p : Post K T ca Rw W H r n (x.bind k) Q)
    (hq : ∀ v h' r' H' u, Ext H r n H' r' h'.length → Rel K T ca H' r' h' → Rv H' r' h'.length v u → Post K T ca Rw W H' r' h'.length (k v h') Q → Q' u H') : Post K T ca Rv W H r n x Q' := by
  cases x with
  | bad => exact p
  | exc c h' => exact p
  | ok v h' =>
    intro r' H' u e R rv
    refine hq v h' r' H' u e R rv ?_
    have p : Post K T ca Rw W H r n (k v h') Q := p
    cases hk : k v h' with
    | bad => rw [hk] at p; exact p
    | exc c h2 =>
      rw [hk] at p
      exact fun C r2 H2 hc e2 R2 => p C r2 H2 hc (e.trans e2) R2
    | ok w h2 =>
      rw [hk] at p
      exact fun r2 H2 u2 e2 R2 rw2 => p r2 H2 u2 (e.trans e2) R2 rw2
/-- seen from a later heap -/
theorem Post.step {α β : Type} {Rv : Hp → Rho → Nat → α → β → Prop} {x : R α} {Q : β → Hp → Prop} {H' : Hp} {r' : Rho} {n' : Nat} (e : Ext H r n H' r' n') (p : Post K T ca Rv W H r n x Q) : Post K T ca Rv W H' r' n' x Q := by
  cases x with
  | bad => exact p
  | exc c h2 => exact fun C r2 H2 hc e2 R2 => p C r2 H2 hc (e.trans e2) R2
  | ok w h2 => exact fun r2 H2 u2 e2 R2 rw2 => p r2 H2 u2 (e.trans e2) R2 rw2
theorem Post.here {α β : Type} {Rv : Hp → Rho → Nat → α → β → Prop} {v : α} {u : β} {h : AH} {Q : β → Hp → Prop} (p : Post K T ca Rv W H r h.length (.ok v h) Q) (R : Rel K T ca H r h) (rv : Rv H r h.length v u) : Q u H := p r H u (Ext.refl _ _ _) R rv
end
end MI

namespace L2
open PySem
theorem PE.wk {X : Cx} {e : Expr} {t t' : TE} (h : PE X e t) (k : ∀ s H Q, t' s H Q → t s H Q) : PE X e t' := ⟨fun pins s σ H Q I q => h.run pins s σ H Q I (k σ H Q q)⟩
theorem PT.wk {X : Cx} {e : Expr} {t t' : TT} (h : PT X e t) (k : ∀ s H Q, t' s H Q → t s H Q) : PT X e t' := ⟨fun pins s σ H Q I q => h.run pins s σ H Q I (k σ H Q q)⟩
theorem PW.wk {X : Cx} {e : Expr} {t t' : TT} (h : PW X e t) (k : ∀ s H Q, t' s H Q → t s H Q) : PW X e t' := ⟨fun w pins s σ H Q I q => h.run w pins s σ H Q I (k σ H Q q)⟩
theorem PA.wk {X : Cx} {es : List Expr} {t t' : TA} (h : PA X es t) (k : ∀ s H Q, t' s H Q → t s H Q) : PA X es t' := ⟨fun p pins s σ H Q I q => h.run p pins s σ H Q I (k σ H Q q)⟩
theorem PS.wk {X : Cx} {e : Stmt} {t t' : TS} (h : PS X e t) (k : ∀ D s H, t' D s H → t D s H) : PS X e t' := ⟨fun pins s σ H D I q => h.run pins s σ H D I (k D σ H q)⟩
theorem PSs.wk {X : Cx} {e : List Stmt} {t t' : TS} (h : PSs X e t) (k : ∀ D s H, t' D s H → t D s H) : PSs X e t' := ⟨fun pins s σ H D I q => h.run pins s σ H D I (k D σ H q)⟩

end L2
namespace MI
open PySem L2

theorem small_le {n : Nat} (h : small n = true) : n ≤ sizeLine := Nat.le_trans (of_decide_eq_true h) (by decide)
theorem small_lt {n : Nat} (h : small n = true) : n < sizeLine := Nat.lt_of_le_of_lt (of_decide_eq_true h) (by decide)

section
variable (K : PySem.W.Frag) (T : List (Addr × Str)) (ca : Str → Option Addr)
/-- the end of an operation that raises nothing: the value, the heap of the small language -/
def Fin (H : Hp) (r : Rho) (n : Nat) (h : AH) (o : Option A) (Q : VK) : Prop :=
  match o with
  | some v => ∀ r' H' u, Ext H r n H' r' h.length → Rel K T ca H' r' h → RA K H' r' h.length v u → Q u H'
  | none => False
/-- a two-place operation by values -/
def rOp (g : AH → A → A → Option A) : R2 := fun x y H Q => ∃ (r : Rho) (h : AH) (a b : A), Rel K T ca H r h ∧ RA K H r h.length a x ∧ RA K H r h.length b y ∧ Fin K T ca H r h.length h (g h a b) Q
end
section
variable {X : Cx} {T : List (Addr × Str)} {ca : Str → Option Addr} {W : WX}
theorem Fin.here {K : PySem.W.Frag} {H : Hp} {r : Rho} {h : AH} {v : A} {u : V} {Q : VK} (p : Fin K T ca H r h.length h (some v) Q) (R : Rel K T ca H r h) (ra : RA K H r h.length v u) : Q u H := p r H u (Ext.refl _ _ _) R ra
/-- a new object, no place -/
theorem Fin.new {K : PySem.W.Frag} {H : Hp} {r : Rho} {h : AH} {v : A} {Q : VK} (p : Fin K T ca H r h.length h (some v) Q) (R : Rel K T ca H r h) {q : Addr} {o : HO} (hq : H q = none) (ra : Ext H r h.length (upd H q o) r h.length → RA K (upd H q o) r h.length v (.ref q)) : Q (.ref q) (upd H q o) :=
  p r _ _ (Ext.new r _ hq) (R.new hq) (ra (Ext.new r _ hq))
theorem Fin.ite {K : PySem.W.Frag} {H : Hp} {r : Rho} {n : Nat} {h : AH} {v : A} {Q : VK} {c : Bool} (p : Fin K T ca H r n h (if c = true then some v else none) Q) : c = true ∧ Fin K T ca H r n h (some v) Q := by
  cases c with
  | true => exact ⟨rfl, p⟩
  | false => exact p.elim
theorem off_new {K : PySem.W.Frag} {H : Hp} {r : Rho} {h : AH} (R : Rel K T ca H r h) {q : Addr} {o : HO} (hq : H q = none) : Off (upd H q o) r h.length q o := ⟨upd_same, R.notNew hq⟩
theorem je_bin {a b : Expr} {op : Operator} {pos : Pos} {ma mb : ASt → AH → R A} {g : AH → A → A → Option A} (ho : OpR X (binaryOp op) (rOp X.K T ca g)) (ha : PE X a (tM X.K T ca W ma)) (hb : PE X b (tM X.K T ca W mb)) :
    PE X (.BinOp a op b pos) (tM X.K T ca W fun s h => (ma s h).bind fun x h1 => (mb s h1).bind fun y h2 => R.of (g h2 x y) h2) := by
  refine (pe_op ho ha hb).wk fun t H Q q => ?_
  obtain ⟨r, s, h, R, S, P⟩ := q
  refine ⟨r, s, h, R, S, P.bind (Rv := RA X.K) fun x h1 r1 H1 u1 e1 R1 v1 P1 => ⟨r1, s, h1, R1, S.ext e1, P1.bind (Rv := RA X.K) fun y h2 r2 H2 u2 e2 R2 v2 P2 => ?_⟩⟩
  refine ⟨r2, h2, x, y, R2, v1.ext e2, v2, ?_⟩
  cases e : g h2 x y with
  | none => rw [e] at P2; exact P2
  | some z => rw [e] at P2; exact P2
theorem natAbs_lt {i : Int} {n : Nat} (h : i.natAbs < n) : -(n : Int) < i ∧ i < n := by omega
theorem oa_add : OpR X (binaryOp .Add) (rOp X.K T ca fun h => binOp h .Add) := by
  intro pins s σ H x y v u Q I rx ry q
  obtain ⟨r, h, a, b, R, ra, rb, P⟩ := q
  cases ra with
  | int i =>
    cases rb with
    | int j => exact op_add pins s σ H _ _ v u Q I rx ry ⟨i, j, rfl, rfl, P.here R (.int _)⟩
    | _ => exact P.elim
  | str i =>
    cases rb with
    | str j =>
      obtain ⟨hz, P⟩ := Fin.ite P
      exact op_add_str pins s σ H _ _ v u Q I rx ry ⟨i, j, rfl, rfl, small_le hz, P.here R (.str _)⟩
    | _ => exact P.elim
  | @tup a xs vs o hs =>
    cases rb with
    | @tup b ys us o2 hs2 =>
      obtain ⟨hz, P⟩ := Fin.ite P
      rw [hs.length, hs2.length] at hz
      have hx := hs.append hs2
      refine op_catA pins s σ H _ _ v u Q I rx ry ⟨a, b, vs, us, rfl, rfl, .inl (.inl o.1), .inl (.inl o2.1), small_le hz, fun e => ?_, fun _ e => ?_, fun _ _ p hp => ?_⟩
      · subst e
        cases hs
        exact P.here R (.tup o2 hs2)
      · subst e
        cases hs2
        exact P.here R (.tup o (by simpa using hs))
      · exact P.new R hp fun e => .tup (off_new R hp) (hx.ext e)
    | @tupK b ys us o2 hs2 =>
      obtain ⟨hz, P⟩ := Fin.ite P
      rw [hs.length, hs2.length] at hz
      have hx := hs.append hs2
      refine op_catA pins s σ H _ _ v u Q I rx ry ⟨a, b, vs, us, rfl, rfl, .inl (.inl o.1), .inr o2, small_le hz, fun e => ?_, fun _ e => ?_, fun _ _ p hp => ?_⟩
      · subst e
        cases hs
        exact P.here R (.tupK o2 hs2)
      · subst e
        cases hs2
        exact P.here R (.tup o (by simpa using hs))
      · exact P.new R hp fun e => .tup (off_new R hp) (hx.ext e)
    | _ => exact P.elim
  | @tupK a xs vs o hs =>
    cases rb with
    | @tup b ys us o2 hs2 =>
      obtain ⟨hz, P⟩ := Fin.ite P
      rw [hs.length, hs2.length] at hz
      have hx := hs.append hs2
      refine op_catA pins s σ H _ _ v u Q I rx ry ⟨a, b, vs, us, rfl, rfl, .inr o, .inl (.inl o2.1), small_le hz, fun e => ?_, fun _ e => ?_, fun _ _ p hp => ?_⟩
      · subst e
        cases hs
        exact P.here R (.tup o2 hs2)
      · subst e
        cases hs2
        exact P.here R (.tupK o (by simpa using hs))
      · exact P.new R hp fun e => .tup (off_new R hp) (hx.ext e)
    | @tupK b ys us o2 hs2 =>
      obtain ⟨hz, P⟩ := Fin.ite P
      rw [hs.length, hs2.length] at hz
      have hx := hs.append hs2
      refine op_catA pins s σ H _ _ v u Q I rx ry ⟨a, b, vs, us, rfl, rfl, .inr o, .inr o2, small_le hz, fun e => ?_, fun _ e => ?_, fun _ _ p hp => ?_⟩
      · subst e
        cases hs
        exact P.here R (.tupK o2 hs2)
      · subst e
        cases hs2
        exact P.here R (.tupK o (by simpa using hs))
      · exact P.new R hp fun e => .tup (off_new R hp) (hx.ext e)
    | _ => exact P.elim
  | @lst a xs vs o hs =>
    cases rb with
    | @lst b ys us o2 hs2 =>
      obtain ⟨hz, P⟩ := Fin.ite P
      rw [hs.length, hs2.length] at hz
      exact op_cat pins s σ H _ _ v u Q I rx ry ⟨a, b, vs, us, rfl, rfl, o.1, o2.1, small_le hz, fun p hp => P.new R hp fun e => .lst (off_new R hp) ((hs.append hs2).ext e)⟩
    | _ => exact P.elim
  | _ => exact P.elim
theorem oa_sub : OpR X (binaryOp .Sub) (rOp X.K T ca fun h => binOp h .Sub) := by
  intro pins s σ H x y v u Q I rx ry q
  obtain ⟨r, h, a, b, R, ra, rb, P⟩ := q
  cases ra with
  | int i =>
    cases rb with
    | int j => exact op_sub pins s σ H _ _ v u Q I rx ry ⟨i, j, rfl, rfl, P.here R (.int _)⟩
    | _ => exact P.elim
  | _ => exact P.elim
theorem foldl_arr (xs : Array Nat) : ∀ (n : Nat) (a : Array Nat), ((List.replicate n xs).foldl (· ++ ·) a).toList = a.toList ++ (List.replicate n xs.toList).flatten
  | 0, a => by simp
  | n + 1, a => by
    rw [List.replicate_succ, List.foldl_cons, foldl_arr xs n, List.replicate_succ, List.flatten_cons]
    simp
theorem str_times {pins : List (Addr × Obj)} {σ : L2.St} {H : Hp} {s : Shared} {x : Str} {j : Int} {t t2 : Tok} {Q : VK} (I : Inv X pins σ H s) (h1 : 0 ≤ j) (h2 : j ≤ 1000) (h3 : x.length ≤ 100) (q : Q (.str ⟨((List.replicate j.toNat x.cps.toList).flatten).toArray⟩) H) :
    wpAny (model X.prog X.w) X.A (binaryOp .Mult (.str x t) (.int j t2)) (EP X pins σ Q) X.xe s := by
  have hmul : x.length * j.toNat ≤ 100 * 1000 := Nat.mul_le_mul h3 (by omega)
  refine PySem.P.mul_str (by simp; omega) (fun _ _ z => ?_) (fun _ _ => ?_) ?_
  · have e1 : (x.length : Int) ≤ 100 := by omega
    have e2 : (100 : Int) ≤ (2 ^ 63 - 1) / j := by
      rw [Int.le_ediv_iff_mul_le (by omega)]
      omega
    omega
  · unfold PySem.Builtin.Str.tooLong
    exact decide_eq_false (by have := (by decide : 100 * 1000 ≤ sizeLine); omega)
  · split
    · have ej : j = 0 := by omega
      subst ej
      exact ⟨Nat.zero_le _, .str _, H, I.tok _, ⟨_, rfl⟩, q⟩
    · split
      · rename_i hj h
        rw [Bool.or_eq_true, beq_iff_eq, beq_iff_eq] at h
        have ex : (⟨((List.replicate j.toNat x.cps.toList).flatten).toArray⟩ : Str) = x := by
          rcases h with h | h
          · rw [h]
            simp
          · have e0 : x.cps = #[] := Array.eq_empty_of_size_eq_zero h
            obtain ⟨a⟩ := x
            subst e0
            simp
        rw [ex] at q
        exact ⟨.str _, H, I, ⟨_, rfl⟩, q⟩
      · have ex : (⟨(List.replicate j.toNat x.cps).foldl (· ++ ·) #[]⟩ : Str) = ⟨((List.replicate j.toNat x.cps.toList).flatten).toArray⟩ := by
          congr 1
          apply Array.ext'
          rw [foldl_arr]
          simp
        rw [ex]
        refine ⟨?_, .str _, H, I.tok _, ⟨_, rfl⟩, q⟩
        show ((List.replicate j.toNat x.cps.toList).flatten).toArray.size ≤ sizeLine
        have hx : x.cps.toList.length = x.length := Array.length_toList
        rw [List.size_toArray, List.length_flatten, List.map_replicate, List.sum_replicate_nat, hx, Nat.mul_comm]
        exact Nat.le_trans hmul (by decide)
theorem oa_mul : OpR X (binaryOp .Mult) (rOp X.K T ca fun h => binOp h .Mult) := by
  intro pins s σ H x y v u Q I rx ry q
  obtain ⟨r, h, a, b, R, ra, rb, P⟩ := q
  cases ra with
  | int i =>
    cases rb with
    | int j =>
      obtain ⟨hz, P⟩ := Fin.ite P
      unfold mulOk at hz
      simp only [Bool.or_eq_true, Bool.and_eq_true, decide_eq_true_eq] at hz
      rcases hz with (hz | hz) | ⟨hz, hz2⟩
      · exact op_mul pins s σ H _ _ v u Q I rx ry ⟨i, j, rfl, rfl, .inl (by have := natAbs_lt hz; simpa using this), P.here R (.int _)⟩
      · exact op_mul pins s σ H _ _ v u Q I rx ry ⟨i, j, rfl, rfl, .inr (by have := natAbs_lt hz; simpa using this), P.here R (.int _)⟩
      · exact op_mulW pins s σ H _ _ v u Q I rx ry ⟨i, j, rfl, rfl, wide_mul (a := 1000) (b := 1000) hz hz2 (by decide) (by decide) (by decide), P.here R (.int _)⟩
    | _ => exact P.elim
  | @lst a xs vs o hs =>
    cases rb with
    | int j =>
      obtain ⟨hz, P⟩ := Fin.ite P
      simp only [Bool.and_eq_true, decide_eq_true_eq] at hz
      obtain ⟨⟨h1, h2⟩, h3⟩ := hz
      rw [hs.length] at h3
      have hl : vs.length * j.toNat ≤ 100 * 1000 := Nat.mul_le_mul h3 (by omega)
      exact op_rep pins s σ H _ _ v u Q I rx ry ⟨a, j, vs, rfl, rfl, o.1, by omega, by omega, Nat.le_trans hl (by decide), fun p hp => P.new R hp fun e => .lst (off_new R hp) ((hs.rep _).ext e)⟩
    | _ => exact P.elim
  | str z =>
    cases rb with
    | int j =>
      obtain ⟨hz, P⟩ := Fin.ite P
      simp only [Bool.and_eq_true, decide_eq_true_eq] at hz
      obtain ⟨⟨h1, h2⟩, h3⟩ := hz
      obtain ⟨t, e1⟩ := rx
      obtain ⟨t2, e2⟩ := ry
      subst e1 e2
      exact str_times I h1 h2 h3 (Fin.here P R (.str _))
    | _ => exact P.elim
  | _ => cases rb <;> exact P.elim
theorem oa_fdiv : OpR X (binaryOp .FloorDiv) (rOp X.K T ca fun h => binOp h .FloorDiv) := by
  intro pins s σ H x y v u Q I rx ry q
  obtain ⟨r, h, a, b, R, ra, rb, P⟩ := q
  cases ra with
  | int i =>
    cases rb with
    | int j =>
      obtain ⟨hz, P⟩ := Fin.ite P
      simp only [Bool.and_eq_true, decide_eq_true_eq] at hz
      refine op_fdivW pins s σ H _ _ v u Q I rx ry ⟨i, j, rfl, rfl, wide_div (b := 1000) hz.1 ?_ (by decide) (by decide), P.here R (.int _)⟩
      have e : ((2 : Int) ^ 1000) = ((2 ^ 1000 : Nat) : Int) := by norm_cast
      rw [e] at hz
      omega
    | _ => exact P.elim
  | _ => cases rb <;> exact P.elim
theorem oa_mod : OpR X (binaryOp .Mod) (rOp X.K T ca fun h => binOp h .Mod) := by
  intro pins s σ H x y v u Q I rx ry q
  obtain ⟨r, h, a, b, R, ra, rb, P⟩ := q
  cases ra with
  | int i =>
    cases rb with
    | int j =>
      obtain ⟨hz, P⟩ := Fin.ite P
      exact op_mod pins s σ H _ _ v u Q I rx ry ⟨i, j, rfl, rfl, of_decide_eq_true hz, P.here R (.int _)⟩
    | _ => exact P.elim
  | _ => cases rb <;> exact P.elim
theorem oa_pow : OpR X (binaryOp .Pow) (rOp X.K T ca fun h => binOp h .Pow) := by
  intro pins s σ H x y v u Q I rx ry q
  obtain ⟨r, h, a, b, R, ra, rb, P⟩ := q
  cases ra with
  | int i =>
    cases rb with
    | int j =>
      obtain ⟨hz, P⟩ := Fin.ite P
      simp only [Bool.and_eq_true, decide_eq_true_eq] at hz
      obtain ⟨⟨⟨h1, h2⟩, h3⟩, h4⟩ := hz
      exact op_pow pins s σ H _ _ v u Q I rx ry ⟨i, j, rfl, rfl, ⟨h1, by omega, by omega⟩, P.here R (.int _)⟩
    | _ => exact P.elim
  | _ => cases rb <;> exact P.elim
end
end MI

namespace MI
open PySem PyProof.Rows L2
section
variable {X : Cx} {T : List (Addr × Str)} {ca : Str → Option Addr} {W : WX}
theorem KTup.sq {K : PySem.W.Frag} {H : Hp} {a : Addr} {vs : List V} (h : KTup K a vs) : SqT K H a vs := .inr h
theorem KLst.sq {K : PySem.W.Frag} {H : Hp} {a : Addr} {vs : List V} (h : KLst K a vs) : SqL K H a vs := .inr h
theorem Off.sqT {K : PySem.W.Frag} {H : Hp} {r : Rho} {n : Nat} {a : Addr} {vs : List V} (h : Off H r n a (.tup vs)) : SqT K H a vs := .inl (.inl h.1)
theorem Off.sqL {K : PySem.W.Frag} {H : Hp} {r : Rho} {n : Nat} {a : Addr} {vs : List V} (h : Off H r n a (.lst vs)) : SqL K H a vs := .inl (.inl h.1)
theorem Off.sqF {K : PySem.W.Frag} {H : Hp} {r : Rho} {n : Nat} {a : Addr} {o : Obj} {vs : List V} (h : Off H r n a (.frz o (.lst vs))) : SqL K H a vs := .inl (.inr ⟨o, h.1⟩)
/-- what is a sequence of the small language is one of the layer -/
theorem ra_list {K : PySem.W.Frag} {H : Hp} {r : Rho} {h : AH} {a : A} {v : V} {xs : List A} (R : Rel K T ca H r h) (ra : RA K H r h.length a v) (e : listAt h a = some xs) : ∃ p vs, v = .ref p ∧ SqL K H p vs ∧ RAs K H r h.length xs vs := by
  cases ra with
  | lst o hs => cases e; exact ⟨_, _, rfl, o.sqL, hs⟩
  | fro o hs => cases e; exact ⟨_, _, rfl, o.sqF, hs⟩
  | froK o hs => cases e; exact ⟨_, _, rfl, o.sq, hs⟩
  | froL o hs => cases e; exact ⟨_, _, rfl, o.sqL, hs⟩
  | loc l hl =>
    simp only [listAt] at e
    split at e
    · rename_i ys ey
      cases e
      obtain ⟨vs, q, hs⟩ := R.obj l _ ey
      exact ⟨_, vs, rfl, .inl (.inl q), hs⟩
    · cases e
  | _ => cases e
theorem ra_tup {K : PySem.W.Frag} {H : Hp} {r : Rho} {n : Nat} {v : V} {xs : List A} (ra : RA K H r n (.tup xs) v) : ∃ p vs, v = .ref p ∧ SqT K H p vs ∧ RAs K H r n xs vs := by
  cases ra with
  | tup o hs => exact ⟨_, _, rfl, o.sqT, hs⟩
  | tupK o hs => exact ⟨_, _, rfl, o.sq, hs⟩
theorem dp_all {K : PySem.W.Frag} {H : Hp} {r : Rho} {n : Nat} {f : A → Option PyData} (ih : ∀ a v d, RA K H r n a v → f a = some d → Dp K H v d) : ∀ {xs : List A} {vs : List V} {ds : List PyData}, RAs K H r n xs vs → mapO f xs = some ds → DpAll K H vs ds
  | [], _, _, .nil, e => by cases e; exact .nil
  | x :: xs, _, _, .cons a b, e => by
    simp only [mapO] at e
    split at e
    · cases e
    · rename_i y ey
      split at e
      · cases e
      · rename_i ys eys
        cases e
        exact .cons (ih _ _ _ a ey) (dp_all ih b eys)
theorem ra_data {K : PySem.W.Frag} {H : Hp} {r : Rho} {h : AH} (R : Rel K T ca H r h) : ∀ (k : Nat) (a : A) (v : V) (d : PyData), RA K H r h.length a v → dataOf h k a = some d → Dp K H v d
  | k, a, v, d, ra, e => by
    cases ra with
    | non => cases k <;> (cases e; exact .non)
    | bl b => cases k <;> (cases e; exact .bl b)
    | int b => cases k <;> (cases e; exact .int b)
    | str b => cases k <;> (cases e; exact .str b)
    | tup o hs =>
      cases k with
      | zero => cases e
      | succ k =>
        simp only [dataOf, Option.map_eq_some_iff] at e
        obtain ⟨ds, e1, e2⟩ := e
        subst e2
        exact .tup o.sqT (dp_all (fun a v d => ra_data R k a v d) hs e1)
    | tupK o hs =>
      cases k with
      | zero => cases e
      | succ k =>
        simp only [dataOf, Option.map_eq_some_iff] at e
        obtain ⟨ds, e1, e2⟩ := e
        subst e2
        exact .tup o.sq (dp_all (fun a v d => ra_data R k a v d) hs e1)
    | lst o hs =>
      cases k with
      | zero => cases e
      | succ k =>
        simp only [dataOf, Option.map_eq_some_iff] at e
        obtain ⟨ds, e1, e2⟩ := e
        subst e2
        exact .lst o.sqL (dp_all (fun a v d => ra_data R k a v d) hs e1)
    | fro o hs =>
      cases k with
      | zero => cases e
      | succ k =>
        simp only [dataOf, Option.map_eq_some_iff] at e
        obtain ⟨ds, e1, e2⟩ := e
        subst e2
        exact .lst o.sqF (dp_all (fun a v d => ra_data R k a v d) hs e1)
    | froK o hs =>
      cases k with
      | zero => cases e
      | succ k =>
        simp only [dataOf, Option.map_eq_some_iff] at e
        obtain ⟨ds, e1, e2⟩ := e
        subst e2
        exact .lst o.sq (dp_all (fun a v d => ra_data R k a v d) hs e1)
    | froL o hs =>
      cases k with
      | zero => cases e
      | succ k =>
        simp only [dataOf, Option.map_eq_some_iff] at e
        obtain ⟨ds, e1, e2⟩ := e
        subst e2
        exact .lst o.sqL (dp_all (fun a v d => ra_data R k a v d) hs e1)
    | loc l hl =>
      cases k with
      | zero => cases e
      | succ k =>
        simp only [dataOf] at e
        split at e
        · rename_i xs ex
          simp only [Option.map_eq_some_iff] at e
          obtain ⟨ds, e1, e2⟩ := e
          subst e2
          obtain ⟨vs, q, hs⟩ := R.obj l _ ex
          exact .lst (.inl (.inl q)) (dp_all (fun a v d => ra_data R k a v d) hs e1)
        · cases e
theorem eqA_some {h : AH} {a b : A} {k : Bool} (e : eqD h a b = some k) : ∃ d e, dataOf h 6 a = some d ∧ dataOf h 6 b = some e ∧ SeqAt.shaped d = true ∧ SeqAt.shaped e = true ∧ PyData.eqv d e = k := by
  unfold eqD at e
  split at e
  · rename_i d e' h1 h2
    split at e
    · rename_i hs
      simp only [Bool.and_eq_true] at hs
      exact ⟨d, e', h1, h2, hs.1, hs.2, Option.some.inj e⟩
    · cases e
  · cases e
theorem eqA_cases {h : AH} {a b : A} {k : Bool} (e : eqA h a b = some k) : (∃ x y, a = .str x ∧ b = .str y ∧ k = decide (x = y)) ∨ (∃ l m ks ls, a = .loc l ∧ b = .loc m ∧ h[l]? = some (.dic false ks) ∧ h[m]? = some (.dic false ls) ∧ ((ks.length ≠ ls.length ∧ k = false) ∨ (ks = [] ∧ ls = [] ∧ k = true))) ∨ (∃ xs ys, listAt h a = some xs ∧ listAt h b = some ys ∧ xs.length ≠ ys.length ∧ k = false) ∨ eqD h a b = some k := by
  have hL : ∀ a b, eqL h a b = some k → (∃ xs ys, listAt h a = some xs ∧ listAt h b = some ys ∧ xs.length ≠ ys.length ∧ k = false) ∨ eqD h a b = some k := fun a b e => by
    unfold eqL at e
    split at e
    · rename_i xs ys e1 e2
      split at e
      · exact .inr e
      · rename_i hl
        exact .inl ⟨xs, ys, e1, e2, hl, (Option.some.inj e).symm⟩
    · exact .inr e
  cases a with
  | str x =>
    cases b with
    | str y => exact .inl ⟨x, y, rfl, rfl, (Option.some.inj e).symm⟩
    | _ => exact .inr (.inr (.inr e))
  | loc l =>
    cases b with
    | loc m =>
      simp only [eqA] at e
      split at e
      · rename_i ks ls e1 e2
        unfold eqK at e
        split at e
        · rename_i hl
          split at e
          · rename_i h0
            have k0 : ks = [] := List.length_eq_zero_iff.mp h0
            have l0 : ls = [] := List.length_eq_zero_iff.mp (hl ▸ h0)
            exact .inr (.inl ⟨l, m, ks, ls, rfl, rfl, e1, e2, .inr ⟨k0, l0, (Option.some.inj e).symm⟩⟩)
          · cases e
        · rename_i hl
          exact .inr (.inl ⟨l, m, ks, ls, rfl, rfl, e1, e2, .inl ⟨hl, (Option.some.inj e).symm⟩⟩)
      · exact .inr (.inr (hL _ _ e))
    | _ => exact .inr (.inr (hL _ _ e))
  | _ => exact .inr (.inr (hL _ _ e))
theorem isL {h : Heap} {a : Addr} {its : Array Value} (x : PlainL h a its) : h.IsList a its := let ⟨o, n, e, c, _, d⟩ := x; ⟨o, e, c, n, d⟩
theorem ne_list_lengths {prog : Program} {w : World} {A : Around} {E : Value → Shared → Prop} {s : Shared} {l b : Addr} {items items2 : Array Value} {Q : Value → Shared → Prop} (hl : s.heap.IsList l items) (hb : s.heap.IsList b items2) (hsz : (items.size != items2.size) = true) (hu : A.units < cLine) (h : Q (.bool true) s) :
    wpAny (model prog w) A (compareOp .NotEq (.ref l) (.ref b)) Q E s := PySem.SeqAt.RcNeAt.lists_lengths hl hb hsz hu prog w E Q h
theorem rks_len0 {κ : Type} {K : PySem.W.Frag} {H : Hp} {r : Rho} {n : Nat} {xs : List (κ × A)} {vs : List (κ × V)} (h : RKs K H r n xs vs) : xs.length = vs.length := by
  induction h with
  | nil => rfl
  | cons a b ih => simp [ih]
theorem oc_eq (hu : X.A.units + 64 < cLine) : OpR X (compareOp .Eq) (rOp X.K T ca fun h a b => (cmpOp h .Eq a b).map .bl) := by
  intro pins s σ H x y v u Q I rx ry q
  obtain ⟨r, h, a, b, R, ra, rb, P⟩ := q
  have hc : ∀ a b, cmpOp h .Eq a b = eqA h a b := fun a b => by cases a <;> cases b <;> rfl
  have P' : Fin X.K T ca H r h.length h ((cmpOp h .Eq a b).map .bl) Q := P
  rw [hc] at P'
  cases ek : eqA h a b with
  | none => rw [ek] at P'; exact P'.elim
  | some k =>
    rw [ek] at P'
    rcases eqA_cases ek with ⟨x', y', rfl, rfl, rfl⟩ | ⟨l, m, ks, ls, rfl, rfl, e1, e2, e3⟩ | ⟨xs, ys, e1, e2, hne, rfl⟩ | ek
    · cases ra
      cases rb
      refine op_eq pins s σ H _ _ v u Q I rx ry ⟨rfl, ?_⟩
      have e : decide (V.str x' = V.str y') = decide (x' = y') := by
        rw [Bool.eq_iff_iff]
        simp
      rw [e]
      exact Fin.here P' R (.bl _)
    · cases ra with
      | loc _ hl =>
        cases rb with
        | loc _ hm =>
          obtain ⟨va, g1, g2⟩ := R.obj l _ e1
          obtain ⟨vb, g3, g4⟩ := R.obj m _ e2
          obtain rfl : v = Value.ref (r l) := rx
          obtain rfl : u = Value.ref (r m) := ry
          obtain ⟨_, ya, wa, ra, da⟩ := (show ObjOk X.prog X.w H s.heap (r l) (.dK va) from I.hok (r l) _ g1)
          obtain ⟨_, yb, wb, rb, db⟩ := (show ObjOk X.prog X.w H s.heap (r m) (.dK vb) from I.hok (r m) _ g3)
          have z1 : wa.length = ks.length := by rw [← ra.length, ← rks_len0 g2]
          have z2 : wb.length = ls.length := by rw [← rb.length, ← rks_len0 g4]
          have q := Fin.here P' R (RA.bl k)
          rcases e3 with ⟨hne, rfl⟩ | ⟨rfl, rfl, rfl⟩
          · exact PySem.W.keq_eq (knd := mixKind X.prog X.w) (r := true) ya yb da db (by omega) (fun z => absurd z (by omega)) (fin_bl I q (by simp; omega))
          · have w1 : wa = [] := List.length_eq_zero_iff.mp (by simpa using z1)
            have w2 : wb = [] := List.length_eq_zero_iff.mp (by simpa using z2)
            subst w1 w2
            exact PySem.W.keq_eq (knd := mixKind X.prog X.w) (r := true) ya yb da db (by omega) (fun _ => .nil) (fin_bl I q (by simp))
    · obtain ⟨pa, va, g1, g2, g3⟩ := ra_list R ra e1
      obtain ⟨pb, vb, g4, g5, g6⟩ := ra_list R rb e2
      subst g1 g4
      obtain rfl : v = Value.ref pa := rx
      obtain rfl : u = Value.ref pb := ry
      obtain ⟨ia, w1, w2, _⟩ := I.list g2
      obtain ⟨ib, w3, w4, _⟩ := I.list g5
      have z1 : ia.length = xs.length := by rw [g3.length]; exact (Paired.length w1).symm
      have z2 : ib.length = ys.length := by rw [g6.length]; exact (Paired.length w3).symm
      exact PySem.SeqAt.eq_list_lengthsAt (isL w2) (isL w4) (by simp; omega) (by omega) ⟨.bl _, H, I, rfl, Fin.here P' R (RA.bl false)⟩
    · obtain ⟨d, e, h1, h2, h3, h4, h5⟩ := eqA_some ek
      exact op_eqD hu pins s σ H _ _ v u Q I rx ry ⟨d, e, ra_data R 6 a x d ra h1, ra_data R 6 b y e rb h2, h3, h4, by rw [h5]; exact Fin.here P' R (.bl _)⟩
theorem oc_ne (hu : X.A.units + 64 < cLine) : OpR X (compareOp .NotEq) (rOp X.K T ca fun h a b => (cmpOp h .NotEq a b).map .bl) := by
  intro pins s σ H x y v u Q I rx ry q
  obtain ⟨r, h, a, b, R, ra, rb, P⟩ := q
  have hc : ∀ a b, cmpOp h .NotEq a b = (eqA h a b).map (!·) := fun a b => by cases a <;> cases b <;> rfl
  have P' : Fin X.K T ca H r h.length h ((cmpOp h .NotEq a b).map .bl) Q := P
  rw [hc] at P'
  cases ek : eqA h a b with
  | none => rw [ek] at P'; exact P'.elim
  | some k =>
    rw [ek] at P'
    rcases eqA_cases ek with ⟨x', y', rfl, rfl, rfl⟩ | ⟨l, m, ks, ls, rfl, rfl, e1, e2, e3⟩ | ⟨xs, ys, e1, e2, hne, rfl⟩ | ek
    · cases ra
      cases rb
      refine op_ne pins s σ H _ _ v u Q I rx ry ⟨rfl, ?_⟩
      have e : decide (V.str x' = V.str y') = decide (x' = y') := by
        rw [Bool.eq_iff_iff]
        simp
      rw [e]
      exact Fin.here P' R (.bl _)
    · cases ra with
      | loc _ hl =>
        cases rb with
        | loc _ hm =>
          obtain ⟨va, g1, g2⟩ := R.obj l _ e1
          obtain ⟨vb, g3, g4⟩ := R.obj m _ e2
          obtain rfl : v = Value.ref (r l) := rx
          obtain rfl : u = Value.ref (r m) := ry
          obtain ⟨_, ya, wa, ra, da⟩ := (show ObjOk X.prog X.w H s.heap (r l) (.dK va) from I.hok (r l) _ g1)
          obtain ⟨_, yb, wb, rb, db⟩ := (show ObjOk X.prog X.w H s.heap (r m) (.dK vb) from I.hok (r m) _ g3)
          have z1 : wa.length = ks.length := by rw [← ra.length, ← rks_len0 g2]
          have z2 : wb.length = ls.length := by rw [← rb.length, ← rks_len0 g4]
          have q := Fin.here P' R (RA.bl (!k))
          rcases e3 with ⟨hne, rfl⟩ | ⟨rfl, rfl, rfl⟩
          · exact PySem.W.keq_ne (knd := mixKind X.prog X.w) (r := true) ya yb da db (by omega) (fun z => absurd z (by omega)) (fin_bl I q (by simp; omega))
          · have w1 : wa = [] := List.length_eq_zero_iff.mp (by simpa using z1)
            have w2 : wb = [] := List.length_eq_zero_iff.mp (by simpa using z2)
            subst w1 w2
            exact PySem.W.keq_ne (knd := mixKind X.prog X.w) (r := true) ya yb da db (by omega) (fun _ => .nil) (fin_bl I q (by simp))
    · obtain ⟨pa, va, g1, g2, g3⟩ := ra_list R ra e1
      obtain ⟨pb, vb, g4, g5, g6⟩ := ra_list R rb e2
      subst g1 g4
      obtain rfl : v = Value.ref pa := rx
      obtain rfl : u = Value.ref pb := ry
      obtain ⟨ia, w1, w2, _⟩ := I.list g2
      obtain ⟨ib, w3, w4, _⟩ := I.list g5
      have z1 : ia.length = xs.length := by rw [g3.length]; exact (Paired.length w1).symm
      have z2 : ib.length = ys.length := by rw [g6.length]; exact (Paired.length w3).symm
      exact ne_list_lengths (isL w2) (isL w4) (by simp; omega) (by omega) ⟨.bl _, H, I, rfl, Fin.here P' R (RA.bl true)⟩
    · obtain ⟨d, e, h1, h2, h3, h4, h5⟩ := eqA_some ek
      exact op_neD hu pins s σ H _ _ v u Q I rx ry ⟨d, e, ra_data R 6 a x d ra h1, ra_data R 6 b y e rb h2, h3, h4, by rw [h5]; exact Fin.here P' R (.bl _)⟩
theorem oc_lt : OpR X (compareOp .Lt) (rOp X.K T ca fun h a b => (cmpOp h .Lt a b).map .bl) := by
  intro pins s σ H x y v u Q I rx ry q
  obtain ⟨r, h, a, b, R, ra, rb, P⟩ := q
  cases ra with
  | int i =>
    cases rb with
    | int j => exact op_lt pins s σ H _ _ v u Q I rx ry ⟨i, j, rfl, rfl, Fin.here P R (.bl _)⟩
    | _ => exact P.elim
  | _ => cases rb <;> exact P.elim
theorem oc_le : OpR X (compareOp .LtE) (rOp X.K T ca fun h a b => (cmpOp h .LtE a b).map .bl) := by
  intro pins s σ H x y v u Q I rx ry q
  obtain ⟨r, h, a, b, R, ra, rb, P⟩ := q
  cases ra with
  | int i =>
    cases rb with
    | int j => exact op_le pins s σ H _ _ v u Q I rx ry ⟨i, j, rfl, rfl, Fin.here P R (.bl _)⟩
    | _ => exact P.elim
  | str i =>
    cases rb with
    | str j => exact op_le_str pins s σ H _ _ v u Q I rx ry ⟨i, j, rfl, rfl, Fin.here P R (.bl _)⟩
    | _ => exact P.elim
  | _ => cases rb <;> exact P.elim
theorem oc_gt : OpR X (compareOp .Gt) (rOp X.K T ca fun h a b => (cmpOp h .Gt a b).map .bl) := by
  intro pins s σ H x y v u Q I rx ry q
  obtain ⟨r, h, a, b, R, ra, rb, P⟩ := q
  cases ra with
  | int i =>
    cases rb with
    | int j => exact op_gt pins s σ H _ _ v u Q I rx ry ⟨i, j, rfl, rfl, Fin.here P R (.bl _)⟩
    | _ => exact P.elim
  | _ => cases rb <;> exact P.elim
theorem oc_ge : OpR X (compareOp .GtE) (rOp X.K T ca fun h a b => (cmpOp h .GtE a b).map .bl) := by
  intro pins s σ H x y v u Q I rx ry q
  obtain ⟨r, h, a, b, R, ra, rb, P⟩ := q
  cases ra with
  | int i =>
    cases rb with
    | int j => exact op_ge pins s σ H _ _ v u Q I rx ry ⟨i, j, rfl, rfl, Fin.here P R (.bl _)⟩
    | _ => exact P.elim
  | _ => cases rb <;> exact P.elim
theorem ra_flat {K : PySem.W.Frag} {H : Hp} {r : Rho} {n : Nat} {a : A} {v : V} (ra : RA K H r n a v) (f : flatA a = true) : v = toV a ∧ flatV v = true := by
  cases ra <;> first | exact ⟨rfl, rfl⟩ | exact absurd (show false = true from f) Bool.false_ne_true
theorem ras_flat {K : PySem.W.Frag} {H : Hp} {r : Rho} {n : Nat} : ∀ {xs : List A} {vs : List V}, RAs K H r n xs vs → xs.all flatA = true → vs = xs.map toV ∧ vs.all flatV = true
  | _, _, .nil, _ => ⟨rfl, rfl⟩
  | _, _, .cons a b, f => by
    rw [List.all_cons, Bool.and_eq_true] at f
    obtain ⟨h1, h2⟩ := ra_flat a f.1
    obtain ⟨h3, h4⟩ := ras_flat b f.2
    exact ⟨by rw [List.map_cons, ← h1, ← h3], by rw [List.all_cons, h2, h4]; rfl⟩
def isNonA : A → Bool
  | .non => true
  | _ => false
theorem ra_non {K : PySem.W.Frag} {H : Hp} {r : Rho} {n : Nat} {a : A} {v : V} (ra : RA K H r n a v) : decide (v = .non) = isNonA a := by
  cases ra <;> rfl
theorem oc_is : OpR X (compareOp .Is) (rOp X.K T ca fun h a b => (cmpOp h .Is a b).map .bl) := by
  intro pins s σ H x y v u Q I rx ry q
  obtain ⟨r, h, a, b, R, ra, rb, P⟩ := q
  cases rb with
  | non =>
    have hc : cmpOp h .Is a .non = some (isNonA a) := by cases a <;> rfl
    have P : Fin X.K T ca H r h.length h ((cmpOp h .Is a .non).map .bl) Q := P
    rw [hc, ← ra_non ra] at P
    exact op_isN pins s σ H _ _ v u Q I rx ry ⟨rfl, Fin.here P R (.bl _)⟩
  | bl j =>
    cases ra with
    | bl i => exact op_is_bl pins s σ H _ _ v u Q I rx ry ⟨i, j, rfl, rfl, Fin.here P R (.bl _)⟩
    | _ => exact P.elim
  | _ => cases ra <;> exact P.elim
theorem oc_isnot : OpR X (compareOp .IsNot) (rOp X.K T ca fun h a b => (cmpOp h .IsNot a b).map .bl) := by
  intro pins s σ H x y v u Q I rx ry q
  obtain ⟨r, h, a, b, R, ra, rb, P⟩ := q
  cases rb with
  | non =>
    have hc : cmpOp h .IsNot a .non = some (!isNonA a) := by cases a <;> rfl
    have P : Fin X.K T ca H r h.length h ((cmpOp h .IsNot a .non).map .bl) Q := P
    rw [hc, ← ra_non ra] at P
    exact op_notN pins s σ H _ _ v u Q I rx ry ⟨rfl, Fin.here P R (.bl _)⟩
  | bl j =>
    cases ra with
    | bl i => exact op_isnot_bl pins s σ H _ _ v u Q I rx ry ⟨i, j, rfl, rfl, Fin.here P R (.bl _)⟩
    | _ => exact P.elim
  | _ => cases ra <;> exact P.elim
theorem str_one {w : Str} {c : Nat} (h : w.cps.toList = [c]) : w = ⟨#[c]⟩ := by
  obtain ⟨a⟩ := w
  have e : a = #[c] := by
    apply Array.ext'
    exact h
  rw [e]
theorem rks_lookup {κ : Type} [DecidableEq κ] {K : PySem.W.Frag} {H : Hp} {r : Rho} {n : Nat} {k : κ} : ∀ {kvs : List (κ × A)} {vs : List (κ × V)}, RKs K H r n kvs vs →
    (getK k kvs = none ∧ getK k vs = none) ∨ ∃ a v, getK k kvs = some a ∧ getK k vs = some v ∧ RA K H r n a v := by
  intro kvs vs h
  induction h with
  | nil => exact .inl ⟨rfl, rfl⟩
  | @cons k' x v xs vs a b ih =>
    by_cases e : k = k'
    · subst e
      exact .inr ⟨x, v, if_pos rfl, if_pos rfl, a⟩
    · have e' : ¬ k' = k := fun z => e z.symm
      simpa [getK, e'] using ih
theorem rks_len {κ : Type} {K : PySem.W.Frag} {H : Hp} {r : Rho} {n : Nat} {fs : List (κ × A)} {vs : List (κ × V)} (h : RKs K H r n fs vs) : fs.length = vs.length := by
  induction h with
  | nil => rfl
  | cons _ _ ih => simp [ih]
theorem valV_lookup {κ : Type} [DecidableEq κ] (k : κ) : ∀ vs : List (κ × V), valV vs k = getK k vs
  | [] => rfl
  | p :: r => by
    by_cases e : p.1 = k
    · rw [valV_pos e]
      simp [getK, e]
    · rw [valV_neg e, valV_lookup k r]
      simp [getK, e]
/-- a dict at a place: what it has -/
theorem ra_dic {K : PySem.W.Frag} {H : Hp} {r : Rho} {h : AH} {l : Nat} {lk : Bool} {kvs : List (Key × A)} (R : Rel K T ca H r h) (e : h[l]? = some (.dic lk kvs)) : ∃ vs, Rd H (r l) (.dK vs) ∧ RKs K H r h.length kvs vs := by
  have q := R.obj l _ e
  cases lk with
  | false =>
    obtain ⟨vs, q1, q2⟩ := q
    exact ⟨vs, .inl q1, q2⟩
  | true =>
    obtain ⟨o, vs, q1, q2⟩ := q
    exact ⟨vs, .inr ⟨o, q1⟩, q2⟩
theorem ra_key {K : PySem.W.Frag} {H : Hp} {r : Rho} {n : Nat} {a : A} {v : V} {k : Key} (ra : RA K H r n a v) (e : keyA a = some k) : v = kV k := by
  cases ra <;> first | (cases e; rfl) | cases e
theorem dget_of {K : PySem.W.Frag} {H : Hp} {r : Rho} {n : Nat} {a : Addr} {kvs : List (Key × A)} {vs : List (Key × V)} {k : Key} (rd : Rd H a (.dK vs)) (rk : RKs K H r n kvs vs) :
    (getK k kvs = none ∧ DGet H a (kV k) none) ∨ ∃ x v, getK k kvs = some x ∧ DGet H a (kV k) (some v) ∧ RA K H r n x v := by
  rcases rks_lookup (k := k) rk with ⟨h1, h2⟩ | ⟨x, v, h1, h2, h3⟩
  · exact .inl ⟨h1, .inl ⟨vs, k, rd, rfl, by rw [valV_lookup, h2]⟩⟩
  · exact .inr ⟨x, v, h1, .inl ⟨vs, k, rd, rfl, by rw [valV_lookup, h2]⟩, h3⟩
theorem oc_in (hu : X.A.units + 64 < cLine) : OpR X (compareOp .In) (rOp X.K T ca fun h a b => (cmpOp h .In a b).map .bl) := by
  intro pins s σ H x y v u Q I rx ry q
  obtain ⟨r, h, a, b, R, ra, rb, P⟩ := q
  have hc : cmpOp h .In a b = inA h a b := by cases a <;> cases b <;> rfl
  have P : Fin X.K T ca H r h.length h ((cmpOp h .In a b).map .bl) Q := P
  rw [hc] at P
  have seq : ∀ {p : Addr} {xs : List A} {vs : List V}, y = .ref p → (SqL X.K H p vs ∨ SqT X.K H p vs) → RAs X.K H r h.length xs vs → Fin X.K T ca H r h.length h ((if (flatA a && xs.all flatA) = true then some (inV (toV a) (xs.map toV)) else none).map .bl) Q →
      wpAny (model X.prog X.w) X.A (compareOp .In v u) (EP X pins σ Q) X.xe s := fun {p xs vs} ey hs rs P => by
    cases hf : (flatA a && xs.all flatA) with
    | false => rw [hf] at P; exact P.elim
    | true =>
      rw [hf] at P
      simp only [Bool.and_eq_true] at hf
      obtain ⟨e1, e2⟩ := ra_flat ra hf.1
      obtain ⟨e3, e4⟩ := ras_flat rs hf.2
      exact op_in_seq pins s σ H _ _ v u Q I rx ry ⟨p, vs, ey, hs, e2, e4, by rw [e1, e3]; exact Fin.here P R (.bl _)⟩
  cases rb with
  | str z =>
    cases ra with
    | str w =>
      simp only [inA] at P
      split at P
      · rename_i c ec
        have ew := str_one ec
        subst ew
        exact op_in_sign pins s σ H _ _ v u Q I rx ry ⟨c, z, rfl, rfl, Fin.here P R (.bl _)⟩
      · exact P.elim
    | _ => exact P.elim
  | tup o hs => exact seq rfl (.inr o.sqT) hs P
  | tupK o hs => exact seq rfl (.inr o.sq) hs P
  | lst o hs => exact seq rfl (.inl o.sqL) hs P
  | loc l hl =>
    simp only [inA] at P
    split at P
    · rename_i lk kvs ek
      obtain ⟨vs, rd, rk⟩ := ra_dic R ek
      split at P
      · rename_i k ekk
        have ex := ra_key ra ekk
        subst ex
        rcases dget_of (k := k) rd rk with ⟨h1, h2⟩ | ⟨x, v', h1, h2, h3⟩
        · rw [h1] at P
          cases ry
          exact d_in (Nat.lt_of_le_of_lt (by omega) hu) I h2 rx fun s' I' => ⟨.bl false, H, I', rfl, Fin.here P R (.bl _)⟩
        · rw [h1] at P
          cases ry
          exact d_in (Nat.lt_of_le_of_lt (by omega) hu) I h2 rx fun s' I' => ⟨.bl true, H, I', rfl, Fin.here P R (.bl _)⟩
      · exact P.elim
    · rename_i xs ex
      obtain ⟨vs, q, hs⟩ := R.obj l _ ex
      exact seq rfl (.inl (.inl (.inl q))) hs P
    · exact P.elim
  | _ => cases ra <;> exact P.elim
theorem oc_notin (hu : X.A.units + 64 < cLine) : OpR X (compareOp .NotIn) (rOp X.K T ca fun h a b => (cmpOp h .NotIn a b).map .bl) := by
  intro pins s σ H x y v u Q I rx ry q
  obtain ⟨r, h, a, b, R, ra, rb, P⟩ := q
  have hc : cmpOp h .NotIn a b = (inA h a b).map (!·) := by cases a <;> cases b <;> rfl
  have P : Fin X.K T ca H r h.length h ((cmpOp h .NotIn a b).map .bl) Q := P
  rw [hc] at P
  have seq : ∀ {p : Addr} {xs : List A} {vs : List V}, y = .ref p → (SqL X.K H p vs ∨ SqT X.K H p vs) → RAs X.K H r h.length xs vs → Fin X.K T ca H r h.length h (((if (flatA a && xs.all flatA) = true then some (inV (toV a) (xs.map toV)) else none).map (!·)).map .bl) Q →
      wpAny (model X.prog X.w) X.A (compareOp .NotIn v u) (EP X pins σ Q) X.xe s := fun {p xs vs} ey hs rs P => by
    cases hf : (flatA a && xs.all flatA) with
    | false => rw [hf] at P; exact P.elim
    | true =>
      rw [hf] at P
      simp only [Bool.and_eq_true] at hf
      obtain ⟨e1, e2⟩ := ra_flat ra hf.1
      obtain ⟨e3, e4⟩ := ras_flat rs hf.2
      exact op_notIn_seq pins s σ H _ _ v u Q I rx ry ⟨p, vs, ey, hs, e2, e4, by rw [e1, e3]; exact Fin.here P R (.bl _)⟩
  cases rb with
  | str z =>
    cases ra with
    | str w =>
      simp only [inA] at P
      split at P
      · rename_i c ec
        have ew := str_one ec
        subst ew
        exact op_notIn_sign pins s σ H _ _ v u Q I rx ry ⟨c, z, rfl, rfl, Fin.here P R (.bl _)⟩
      · exact P.elim
    | _ => exact P.elim
  | tup o hs => exact seq rfl (.inr o.sqT) hs P
  | tupK o hs => exact seq rfl (.inr o.sq) hs P
  | lst o hs => exact seq rfl (.inl o.sqL) hs P
  | loc l hl =>
    simp only [inA] at P
    split at P
    · rename_i lk kvs ek
      obtain ⟨vs, rd, rk⟩ := ra_dic R ek
      split at P
      · rename_i k ekk
        have ex := ra_key ra ekk
        subst ex
        rcases dget_of (k := k) rd rk with ⟨h1, h2⟩ | ⟨x, v', h1, h2, h3⟩
        · rw [h1] at P
          cases ry
          exact d_notIn (Nat.lt_of_le_of_lt (by omega) hu) I h2 rx fun s' I' => ⟨.bl true, H, I', rfl, Fin.here P R (.bl _)⟩
        · rw [h1] at P
          cases ry
          exact d_notIn (Nat.lt_of_le_of_lt (by omega) hu) I h2 rx fun s' I' => ⟨.bl false, H, I', rfl, Fin.here P R (.bl _)⟩
      · exact P.elim
    · rename_i xs ex
      obtain ⟨vs, q, hs⟩ := R.obj l _ ex
      exact seq rfl (.inl (.inl (.inl q))) hs P
    · exact P.elim
  | _ => cases ra <;> exact P.elim
theorem oc_all (hu : X.A.units + 64 < cLine) (op : CmpOp) : OpR X (compareOp op) (rOp X.K T ca fun h a b => (cmpOp h op a b).map .bl) := by
  cases op with
  | Eq => exact oc_eq hu
  | NotEq => exact oc_ne hu
  | Lt => exact oc_lt
  | LtE => exact oc_le
  | Gt => exact oc_gt
  | GtE => exact oc_ge
  | Is => exact oc_is
  | IsNot => exact oc_isnot
  | In => exact oc_in hu
  | NotIn => exact oc_notin hu
theorem oa_all (op : Operator) : OpR X (binaryOp op) (rOp X.K T ca fun h => binOp h op) := by
  cases op with
  | Add => exact oa_add
  | Sub => exact oa_sub
  | Mult => exact oa_mul
  | FloorDiv => exact oa_fdiv
  | Mod => exact oa_mod
  | Pow => exact oa_pow
  | _ =>
    intro pins s σ H x y v u Q I rx ry q
    obtain ⟨r, h, a, b, R, ra, rb, P⟩ := q
    cases ra <;> cases rb <;> exact P.elim
theorem atI_rel {K : PySem.W.Frag} {H : Hp} {r : Rho} {n : Nat} {xs : List A} {vs : List V} {i : Int} {a : A} (h : RAs K H r n xs vs) (e : atI xs i = some a) : ∃ v, atI vs i = some v ∧ RA K H r n a v := by
  unfold atI at e ⊢
  rw [← h.length]
  cases hj : ixN xs.length i with
  | none => rw [hj] at e; cases e
  | some j =>
    rw [hj] at e
    exact h.get e
theorem ix_all (hu : X.A.units + 64 < cLine) : IxR X (rOp X.K T ca ixA) := by
  intro value slice pins s σ H x y v u Q I rx ry q hs
  obtain ⟨r, h, a, b, R, ra, rb, P⟩ := q
  have lis : ∀ {p : Addr} {xs : List A} {vs : List V} {i : Int}, x = .ref p → y = .int i → SqL X.K H p vs → RAs X.K H r h.length xs vs → Fin X.K T ca H r h.length h (atI xs i) Q →
      wpAny (model X.prog X.w) X.A (subscriptTail value slice v u) (EP X pins σ Q) X.xe s := fun {p xs vs i} ex ey hq rs P => by
    cases e : atI xs i with
    | none => rw [e] at P; exact P.elim
    | some z =>
      rw [e] at P
      obtain ⟨w, h1, h2⟩ := atI_rel rs e
      exact ix_list value slice pins s σ H _ _ v u Q I rx ry ⟨p, vs, i, w, ex, ey, hq, h1, Fin.here P R h2⟩ hs
  have tups : ∀ {p : Addr} {xs : List A} {vs : List V} {i : Int}, x = .ref p → y = .int i → SqT X.K H p vs → RAs X.K H r h.length xs vs → Fin X.K T ca H r h.length h (atI xs i) Q →
      wpAny (model X.prog X.w) X.A (subscriptTail value slice v u) (EP X pins σ Q) X.xe s := fun {p xs vs i} ex ey hq rs P => by
    cases e : atI xs i with
    | none => rw [e] at P; exact P.elim
    | some z =>
      rw [e] at P
      obtain ⟨w, h1, h2⟩ := atI_rel rs e
      exact ix_tup value slice pins s σ H _ _ v u Q I rx ry ⟨p, vs, i, w, ex, ey, hq, h1, Fin.here P R h2⟩ hs
  cases ra with
  | str z =>
    cases rb with
    | int i =>
      simp only [ixA] at P
      split at P
      · rename_i hz
        cases e : atI z.cps.toList i with
        | none => rw [e] at P; exact P.elim
        | some c =>
          rw [e] at P
          exact ix_str value slice pins s σ H _ _ v u Q I rx ry ⟨z, i, c, rfl, rfl, small_le hz, e, Fin.here P R (.str _)⟩ hs
      · exact P.elim
    | _ => exact P.elim
  | tup o rs =>
    cases rb with
    | int i => exact tups rfl rfl o.sqT rs P
    | _ => exact P.elim
  | tupK o rs =>
    cases rb with
    | int i => exact tups rfl rfl o.sq rs P
    | _ => exact P.elim
  | lst o rs =>
    cases rb with
    | int i => exact lis rfl rfl o.sqL rs P
    | _ => exact P.elim
  | fro o rs =>
    cases rb with
    | int i => exact lis rfl rfl o.sqF rs P
    | _ => exact P.elim
  | froK o rs =>
    cases rb with
    | int i => exact lis rfl rfl o.sq rs P
    | _ => exact P.elim
  | froL o rs =>
    cases rb with
    | int i => exact lis rfl rfl o.sqL rs P
    | _ => exact P.elim
  | loc l hl =>
    simp only [ixA] at P
    split at P
    · rename_i xs ex
      obtain ⟨vs, q, rs⟩ := R.obj l _ ex
      cases rb with
      | int i => exact lis rfl rfl (.inl (.inl q)) rs P
      | _ => exact P.elim
    · rename_i lk kvs ek
      obtain ⟨vs, rd, rk⟩ := ra_dic R ek
      split at P
      · rename_i k ekk
        have ey := ra_key rb ekk
        subst ey
        rcases dget_of (k := k) rd rk with ⟨h1, h2⟩ | ⟨z, w, h1, h2, h3⟩
        · rw [h1] at P; exact P.elim
        · rw [h1] at P
          cases rx
          exact tail_any (dict_typeIs I h2) PySem.F.slot_dict_getitem.lookup (d_getItem (Nat.lt_of_le_of_lt (by omega) hu) I h2 ry fun w' s' I' rw' => ⟨w, H, I', rw', Fin.here P R h3⟩) hs
      · exact P.elim
    · exact P.elim
  | _ => cases rb <;> exact P.elim
end
end MI

namespace MI
open PySem PyProof.Rows L2
section
variable (K : PySem.W.Frag) (T : List (Addr × Str)) (ca : Str → Option Addr)
def rSl (g : AH → A → Option Int → Option Int → Option A) : V → Option Int → Option Int → Hp → VK → Prop := fun x lo hi H Q => ∃ (r : Rho) (h : AH) (a : A), Rel K T ca H r h ∧ RA K H r h.length a x ∧ Fin K T ca H r h.length h (g h a lo hi) Q
def rCall (g : AH → List A → Option A) : List V → Hp → VK → Prop := fun vs H Q => ∃ (r : Rho) (h : AH) (as : List A), Rel K T ca H r h ∧ RAs K H r h.length as vs ∧ Fin K T ca H r h.length h (g h as) Q
def REq {α : Type} (_ : Hp) (_ : Rho) (_ : Nat) (l o : α) : Prop := l = o
/-- an optional part -/
def oM (W : WX) (m : ASt → AH → R (Option Int)) : TO := fun t H Q => ∃ (r : Rho) (s : ASt) (h : AH), Rel K T ca H r h ∧ RSt K H r h.length s t ∧ Post K T ca REq (fun c d H' => W c d t H') H r h.length (m s h) Q
end
section
variable {X : Cx} {T : List (Addr × Str)} {ca : Str → Option Addr} {W : WX}
theorem fin_of {K : PySem.W.Frag} {W' : Value → Option Addr → Hp → Prop} {H : Hp} {r : Rho} {n : Nat} {h : AH} {o : Option A} {Q : VK} (P : Post K T ca (RA K) W' H r n (R.of o h) Q) : Fin K T ca H r n h o Q := by
  cases o with
  | none => exact P
  | some z => exact P
theorem RAs.cut {K : PySem.W.Frag} {H : Hp} {r : Rho} {n : Nat} {xs : List A} {vs : List V} (h : RAs K H r n xs vs) (lo hi : Option Int) : RAs K H r n (cutA xs lo hi) (cutV vs lo hi) := by
  unfold cutA cutV
  rw [← h.length]
  exact (h.drop _).take _
theorem sl_all : SlR X (rSl X.K T ca slA) := by
  intro pins s σ H x v vl vu lo hi sl Q I rx hs pl pu q
  obtain ⟨r, h, a, R, ra, P⟩ := q
  cases ra with
  | @tup p xs vs o rs =>
    refine sl_tupA pins s σ H _ v vl vu lo hi sl Q I rx hs pl pu ⟨p, vs, rfl, o.sqT, fun e => ?_, fun _ p' hp => P.new R hp fun e => .tup (off_new R hp) ((rs.cut lo hi).ext e)⟩
    refine Fin.here P R (.tup o ?_)
    have : cutA xs lo hi = xs := by
      unfold cutA
      rw [rs.length, e.1, e.2, List.drop_zero, Nat.sub_zero, List.take_of_length_le (by rw [rs.length]; exact Nat.le_refl _)]
    rw [this]
    exact rs
  | @tupK p xs vs o rs =>
    refine sl_tupA pins s σ H _ v vl vu lo hi sl Q I rx hs pl pu ⟨p, vs, rfl, o.sq, fun e => ?_, fun _ p' hp => P.new R hp fun e => .tup (off_new R hp) ((rs.cut lo hi).ext e)⟩
    refine Fin.here P R (.tupK o ?_)
    have : cutA xs lo hi = xs := by
      unfold cutA
      rw [rs.length, e.1, e.2, List.drop_zero, Nat.sub_zero, List.take_of_length_le (by rw [rs.length]; exact Nat.le_refl _)]
    rw [this]
    exact rs
  | @lst p xs vs o rs => exact sl_list pins s σ H _ v vl vu lo hi sl Q I rx hs pl pu ⟨p, vs, rfl, o.sqL, fun p' hp => P.new R hp fun e => .lst (off_new R hp) ((rs.cut lo hi).ext e)⟩
  | str z =>
    simp only [slA] at P
    split at P
    · rename_i hz
      exact sl_str pins s σ H _ v vl vu lo hi sl Q I rx hs pl pu ⟨z, rfl, small_le hz, Fin.here P R (.str _)⟩
    · exact P.elim
  | loc l hl =>
    simp only [slA] at P
    split at P
    · rename_i xs ex
      obtain ⟨vs, q, rs⟩ := R.obj l _ ex
      exact sl_list pins s σ H _ v vl vu lo hi sl Q I rx hs pl pu ⟨r l, vs, rfl, .inl (.inl q), fun p' hp => P.new R hp fun e => .lst (off_new R hp) ((rs.cut lo hi).ext e)⟩
    · exact P.elim
  | _ => exact P.elim
theorem jo_none : PO X none (oM X.K T ca W fun _ h => R.bind (.ok [] h) fun l h2 => R.of (partA l) h2) := by
  refine ⟨fun pins s σ H Q I q => (po_none (X := X)).run pins s σ H Q I ?_⟩
  obtain ⟨r, s, h, R, S, P⟩ := q
  exact Post.here (Rv := REq) (v := none) P R rfl
theorem jo_some {e : Expr} {m : ASt → AH → R A} (he : PE X e (tM X.K T ca W m)) : PO X (some e) (oM X.K T ca W fun s h => R.bind ((m s h).bind fun x h1 => R.bind (.ok [] h1) fun xs h2 => .ok (x :: xs) h2) fun l h2 => R.of (partA l) h2) := by
  refine ⟨fun pins s σ H Q I q => (po_some he).run pins s σ H Q I ?_⟩
  obtain ⟨r, s, h, R, S, P⟩ := q
  refine ⟨r, s, h, R, S, ?_⟩
  have P : Post X.K T ca REq (fun c d H' => W c d σ H') H r h.length (MI.R.bind ((m s h).bind fun x h1 => MI.R.bind (.ok [] h1) fun xs h2 => .ok (x :: xs) h2) fun l h2 => MI.R.of (partA l) h2) Q := P
  cases em : m s h with
  | bad => rw [em] at P; exact P
  | exc c h' => rw [em] at P; exact P
  | ok v h1 =>
    rw [em] at P
    intro r' H' u e R' ra
    cases ra with
    | int i => exact ⟨i, rfl, P r' H' (some i) e R' rfl⟩
    | _ => exact P.elim
theorem je_sl {a : Expr} {lo hi : Option Expr} {p2 pos : Pos} {ma : ASt → AH → R A} {ml mh : ASt → AH → R (Option Int)} (ha : PE X a (tM X.K T ca W ma)) (hl : PO X lo (oM X.K T ca W ml)) (hh : PO X hi (oM X.K T ca W mh)) :
    PE X (.Subscript a (.Slice lo hi none p2) pos) (tM X.K T ca W fun s h => (ma s h).bind fun x h1 => (ml s h1).bind fun l h2 => (mh s h2).bind fun u h3 => R.of (slA h3 x l u) h3) := by
  refine (pe_slice (sl_all (T := T) (ca := ca)) ha hl hh).wk fun t H Q q => ?_
  obtain ⟨r, s, h, R, S, P⟩ := q
  refine ⟨r, s, h, R, S, P.bind (Rv := RA X.K) fun x h1 r1 H1 u1 e1 R1 v1 P1 => ⟨r1, s, h1, R1, S.ext e1, P1.bind (Rv := REq) fun l h2 r2 H2 u2 e2 R2 v2 P2 => ⟨r2, s, h2, R2, (S.ext e1).ext e2, P2.bind (Rv := REq) fun u h3 r3 H3 u3 e3 R3 v3 P3 => ?_⟩⟩⟩
  subst v2 v3
  exact ⟨r3, h3, x, R3, (v1.ext e2).ext e3, fin_of P3⟩
/-- f(e, ..), a built-in one -/
theorem je_cb {e : Expr} {es : List Expr} {x : Str} {p pos : Pos} {id : String} {g : AH → List A → Option A} {m : ASt → AH → R (List A)} (hc : CallR X (.builtin id) (rCall X.K T ca g)) (hg : Gl X x) (hm : X.mg x = none) (hv : bootBuiltins x = some (.builtin id))
    (ha : PA X (e :: es) (aM X.K T ca W m)) (hn : x ≠ "__name__") (hdb : (x == ("__debug__" : Str)) = false) (he : starEach (e :: es) X.env = (false, eval e X.env) :: starEach es X.env) (hpl : (backTo pos (starEach es X.env)).any (·.1) = false) :
    PE X (.Call (.Name x p) (e :: es) [] pos) (tM X.K T ca W fun s h => (m s h).bind fun vs h1 => R.of (g h1 vs) h1) := by
  refine (pe_callB hc hg hm hv ha hn hdb he hpl).wk fun t H Q q => ?_
  obtain ⟨r, s, h, R, S, P⟩ := q
  exact ⟨r, s, h, R, S, P.bind (Rv := RAs X.K) fun vs h1 r1 H1 u1 e1 R1 v1 P1 => ⟨r1, h1, vs, R1, v1, fin_of P1⟩⟩
theorem je_ct {e : Expr} {es : List Expr} {x : Str} {p pos : Pos} {id : String} {g : AH → List A → Option A} {m : ASt → AH → R (List A)} (hc : CallR X (.type id) (rCall X.K T ca g)) (hg : Gl X x) (hm : X.mg x = none) (hv : bootBuiltins x = some (.type id))
    (ha : PA X (e :: es) (aM X.K T ca W m)) (hn : x ≠ "__name__") (hdb : (x == ("__debug__" : Str)) = false) (he : starEach (e :: es) X.env = (false, eval e X.env) :: starEach es X.env) (hpl : (backTo pos (starEach es X.env)).any (·.1) = false) :
    PE X (.Call (.Name x p) (e :: es) [] pos) (tM X.K T ca W fun s h => (m s h).bind fun vs h1 => R.of (g h1 vs) h1) := by
  refine (pe_callTy hc hg hm hv ha hn hdb he hpl).wk fun t H Q q => ?_
  obtain ⟨r, s, h, R, S, P⟩ := q
  exact ⟨r, s, h, R, S, P.bind (Rv := RAs X.K) fun vs h1 r1 H1 u1 e1 R1 v1 P1 => ⟨r1, h1, vs, R1, v1, fin_of P1⟩⟩
theorem ras_bools {K : PySem.W.Frag} {H : Hp} {r : Rho} {n : Nat} : ∀ {xs : List A} {vs : List V} {bs : List Bool}, RAs K H r n xs vs → boolsA xs = some bs → vs = bs.map V.bl
  | _, _, _, .nil, e => by cases e; rfl
  | _, _, _, .cons a b, e => by
    cases a with
    | bl k =>
      simp only [boolsA, Option.map_eq_some_iff] at e
      obtain ⟨bs, e1, e2⟩ := e
      subst e2
      rw [ras_bools b e1]
      rfl
    | _ => cases e
theorem ras_ints {K : PySem.W.Frag} {H : Hp} {r : Rho} {n : Nat} : ∀ {xs : List A} {vs : List V} {bs : List Int}, RAs K H r n xs vs → intsA xs = some bs → vs = bs.map V.int
  | _, _, _, .nil, e => by cases e; rfl
  | _, _, _, .cons a b, e => by
    cases a with
    | int k =>
      simp only [intsA, Option.map_eq_some_iff] at e
      obtain ⟨bs, e1, e2⟩ := e
      subst e2
      rw [ras_ints b e1]
      rfl
    | _ => cases e
theorem ras_strs {K : PySem.W.Frag} {H : Hp} {r : Rho} {n : Nat} : ∀ {xs : List A} {vs : List V} {bs : List Str}, RAs K H r n xs vs → strsA xs = some bs → vs = bs.map V.str
  | _, _, _, .nil, e => by cases e; rfl
  | _, _, _, .cons a b, e => by
    cases a with
    | str k =>
      simp only [strsA, Option.map_eq_some_iff] at e
      obtain ⟨bs, e1, e2⟩ := e
      subst e2
      rw [ras_strs b e1]
      rfl
    | _ => cases e
theorem of_ints {K : PySem.W.Frag} {H : Hp} {r : Rho} {n : Nat} : ∀ is : List Int, RAs K H r n (is.map A.int) (is.map V.int)
  | [] => .nil
  | i :: r => .cons (.int i) (of_ints r)
theorem of_strs {K : PySem.W.Frag} {H : Hp} {r : Rho} {n : Nat} : ∀ is : List Str, RAs K H r n (is.map A.str) (is.map V.str)
  | [] => .nil
  | i :: r => .cons (.str i) (of_strs r)
theorem bi_len : CallR X (.builtin "len") (rCall X.K T ca fun h => biOp h .len) := by
  intro pins s σ H vs us Q I rv q
  obtain ⟨r, h, as, R, ra, P⟩ := q
  cases ra with
  | nil => exact P.elim
  | @cons x v xs vs a b =>
    cases b with
    | cons _ _ => exact P.elim
    | nil =>
      have P : Fin X.K T ca H r h.length h ((lenA h x).map fun n => .int n) Q := P
      cases a with
      | str z =>
        simp only [lenA] at P
        split at P
        · rename_i hz
          exact call_len_str pins s σ H _ us Q I rv ⟨z, rfl, small_le hz, Fin.here P R (.int _)⟩
        · exact P.elim
      | tup o hs => exact call_len_seq pins s σ H _ us Q I rv ⟨_, _, rfl, .inr o.sqT, by rw [← hs.length]; exact Fin.here P R (.int _)⟩
      | tupK o hs => exact call_len_seq pins s σ H _ us Q I rv ⟨_, _, rfl, .inr o.sq, by rw [← hs.length]; exact Fin.here P R (.int _)⟩
      | lst o hs => exact call_len_seq pins s σ H _ us Q I rv ⟨_, _, rfl, .inl o.sqL, by rw [← hs.length]; exact Fin.here P R (.int _)⟩
      | fro o hs => exact call_len_seq pins s σ H _ us Q I rv ⟨_, _, rfl, .inl o.sqF, by rw [← hs.length]; exact Fin.here P R (.int _)⟩
      | froK o hs => exact call_len_seq pins s σ H _ us Q I rv ⟨_, _, rfl, .inl o.sq, by rw [← hs.length]; exact Fin.here P R (.int _)⟩
      | froL o hs => exact call_len_seq pins s σ H _ us Q I rv ⟨_, _, rfl, .inl o.sqL, by rw [← hs.length]; exact Fin.here P R (.int _)⟩
      | loc l hl =>
        simp only [lenA] at P
        split at P
        · rename_i ys ey
          obtain ⟨vs, q, hs⟩ := R.obj l _ ey
          exact call_len_seq pins s σ H _ us Q I rv ⟨_, _, rfl, .inl (.inl (.inl q)), by rw [← hs.length]; exact Fin.here P R (.int _)⟩
        · rename_i kvs ek
          obtain ⟨ws, rd, rk⟩ := R.obj l _ ek
          have hk := rks_len rk
          obtain ⟨u, eu, ru⟩ := vals1 rv
          subst eu
          cases ru
          exact d_len I (.inl rd) fun t s' I' => ⟨.int ws.length, H, I', ⟨t, rfl⟩, by rw [← hk]; exact Fin.here P R (.int _)⟩
        · exact P.elim
      | _ => exact P.elim
theorem bi_all (hc : X.calm = true) : CallR X (.builtin "all") (rCall X.K T ca fun h => biOp h .all) := by
  intro pins s σ H vs us Q I rv q
  obtain ⟨r, h, as, R, ra, P⟩ := q
  cases ra with
  | nil => exact P.elim
  | @cons x v xs vs a b =>
    cases b with
    | cons _ _ => exact P.elim
    | nil =>
      simp only [biOp] at P
      split at P
      · rename_i ys ey
        obtain ⟨p, ws, e1, e2, e3⟩ := ra_list R a ey
        cases eb : boolsA ys with
        | none => rw [eb] at P; exact P.elim
        | some bs =>
          rw [eb] at P
          subst e1
          exact cr_all hc pins s σ H _ us Q I rv ⟨p, bs, rfl, by rw [← ras_bools e3 eb]; exact e2, Fin.here P R (.bl _)⟩
      · exact P.elim
theorem sumI_eq : ∀ is : List Int, sumI is = is.sum
  | [] => rfl
  | i :: r => by rw [sumI, sumI_eq r, List.sum_cons]
theorem bi_sum (hc : X.calm = true) : CallR X (.builtin "sum") (rCall X.K T ca fun h => biOp h .sum) := by
  intro pins s σ H vs us Q I rv q
  obtain ⟨r, h, as, R, ra, P⟩ := q
  cases ra with
  | nil => exact P.elim
  | @cons x v xs vs a b =>
    cases b with
    | cons _ _ => exact P.elim
    | nil =>
      simp only [biOp] at P
      split at P
      · rename_i ys ey
        obtain ⟨p, ws, e1, e2, e3⟩ := ra_list R a ey
        cases eb : intsA ys with
        | none => rw [eb] at P; exact P.elim
        | some bs =>
          rw [eb] at P
          subst e1
          exact cr_sum hc pins s σ H _ us Q I rv ⟨p, bs, rfl, by rw [← ras_ints e3 eb]; exact e2, by rw [← sumI_eq]; exact Fin.here P R (.int _)⟩
      · exact P.elim
theorem bi_min (hc : X.calm = true) : CallR X (.builtin "min") (rCall X.K T ca fun h => biOp h .min) := by
  intro pins s σ H vs us Q I rv q
  obtain ⟨r, h, as, R, ra, P⟩ := q
  cases ra with
  | nil => exact P.elim
  | cons a b =>
    cases b with
    | nil => cases a <;> exact P.elim
    | cons a2 b =>
      cases b with
      | cons _ _ => cases a <;> cases a2 <;> exact P.elim
      | nil =>
        cases a with
        | int i =>
          cases a2 with
          | int j => exact call_min2 hc pins s σ H _ us Q I rv ⟨i, j, rfl, Fin.here P R (.int _)⟩
          | _ => exact P.elim
        | _ => cases a2 <;> exact P.elim
theorem bi_max (hc : X.calm = true) : CallR X (.builtin "max") (rCall X.K T ca fun h => biOp h .max) := by
  intro pins s σ H vs us Q I rv q
  obtain ⟨r, h, as, R, ra, P⟩ := q
  cases ra with
  | nil => exact P.elim
  | cons a b =>
    cases b with
    | nil => cases a <;> exact P.elim
    | cons a2 b =>
      cases b with
      | cons _ _ => cases a <;> cases a2 <;> exact P.elim
      | nil =>
        cases a with
        | int i =>
          cases a2 with
          | int j => exact call_max2 hc pins s σ H _ us Q I rv ⟨i, j, rfl, Fin.here P R (.int _)⟩
          | _ => exact P.elim
        | _ => cases a2 <;> exact P.elim
theorem bi_ord : CallR X (.builtin "ord") (rCall X.K T ca fun h => biOp h .ord) := by
  intro pins s σ H vs us Q I rv q
  obtain ⟨r, h, as, R, ra, P⟩ := q
  cases ra with
  | nil => exact P.elim
  | cons a b =>
    cases b with
    | cons _ _ => cases a <;> exact P.elim
    | nil =>
      cases a with
      | str z =>
        simp only [biOp] at P
        split at P
        · rename_i c ec
          have ew := str_one ec
          subst ew
          exact call_ord pins s σ H _ us Q I rv ⟨_, rfl, rfl, Fin.here P R (.int _)⟩
        · exact P.elim
      | _ => exact P.elim
theorem bi_int : CallR X (.type "int") (rCall X.K T ca fun h => biOp h .int) := by
  intro pins s σ H vs us Q I rv q
  obtain ⟨r, h, as, R, ra, P⟩ := q
  cases ra with
  | nil => exact P.elim
  | cons a b =>
    cases b with
    | cons _ _ => cases a <;> exact P.elim
    | nil =>
      cases a with
      | int i => exact call_int1 pins s σ H _ us Q I rv (.inl ⟨i, rfl, Fin.here P R (.int _)⟩)
      | bl i => exact call_int1 pins s σ H _ us Q I rv (.inr ⟨i, rfl, Fin.here P R (.int _)⟩)
      | _ => exact P.elim
theorem log_small {n : Nat} (h : n < 2 ^ 1000) : n.log2 < 1920 := by
  have := PySem.Flt.log2_lt_of (show 0 < 1000 by decide) h
  omega
theorem bi_str : CallR X (.type "str") (rCall X.K T ca fun h => biOp h .str) := by
  intro pins s σ H vs us Q I rv q
  obtain ⟨r, h, as, R, ra, P⟩ := q
  cases ra with
  | nil => exact P.elim
  | cons a b =>
    cases b with
    | cons _ _ => cases a <;> exact P.elim
    | nil =>
      cases a with
      | int i =>
        obtain ⟨hz, P⟩ := Fin.ite P
        exact call_str_int pins s σ H _ us Q I rv ⟨i, rfl, log_small (of_decide_eq_true hz), Fin.here P R (.str _)⟩
      | _ => exact P.elim
theorem ra_seq {K : PySem.W.Frag} {H : Hp} {r : Rho} {h : AH} {a : A} {v : V} {xs : List A} (R : Rel K T ca H r h) (ra : RA K H r h.length a v) (e : seqAt h a = some xs) : ∃ p vs, v = .ref p ∧ (SqL K H p vs ∨ SqT K H p vs) ∧ RAs K H r h.length xs vs := by
  have l : ∀ e : listAt h a = some xs, ∃ p vs, v = .ref p ∧ (SqL K H p vs ∨ SqT K H p vs) ∧ RAs K H r h.length xs vs := fun e => by
    obtain ⟨p, vs, e1, e2, e3⟩ := ra_list R ra e
    exact ⟨p, vs, e1, .inl e2, e3⟩
  cases a with
  | tup zs =>
    cases e
    obtain ⟨p, vs, e1, e2, e3⟩ := ra_tup ra
    exact ⟨p, vs, e1, .inr e2, e3⟩
  | _ => exact l e
theorem bi_list : CallR X (.type "list") (rCall X.K T ca fun h => biOp h .list) := by
  intro pins s σ H vs us Q I rv q
  obtain ⟨r, h, as, R, ra, P⟩ := q
  cases ra with
  | nil => exact P.elim
  | @cons x v xs vs a b =>
    cases b with
    | cons _ _ => exact P.elim
    | nil =>
      have P : Fin X.K T ca H r h.length h ((seqAt h x).map .lst) Q := P
      cases es : seqAt h x with
      | none => rw [es] at P; exact P.elim
      | some ys =>
        rw [es] at P
        obtain ⟨p, ws, e1, e2, e3⟩ := ra_seq R a es
        subst e1
        exact call_list_of pins s σ H _ us Q I rv ⟨p, ws, rfl, e2, fun l hl => P.new R hl fun e => .lst (off_new R hl) (e3.ext e)⟩
theorem bi_tuple : CallR X (.type "tuple") (rCall X.K T ca fun h => biOp h .tuple) := by
  intro pins s σ H vs us Q I rv q
  obtain ⟨r, h, as, R, ra, P⟩ := q
  cases ra with
  | nil => exact P.elim
  | @cons x v xs vs a b =>
    cases b with
    | cons _ _ => cases x <;> exact P.elim
    | nil =>
      cases x with
      | tup zs =>
        obtain ⟨p, ws, e1, e2, e3⟩ := ra_tup a
        have a' := a
        subst e1
        exact call_tuple_of pins s σ H _ us Q I rv ⟨p, ws, rfl, .inr ⟨e2, Fin.here P R a'⟩⟩
      | lst zs =>
        have P : Fin X.K T ca H r h.length h (some (.tup zs)) Q := P
        obtain ⟨p, ws, e1, e2, e3⟩ := ra_list (h := h) R a rfl
        subst e1
        exact call_tuple_of pins s σ H _ us Q I rv ⟨p, ws, rfl, .inl ⟨e2, fun l hl => P.new R hl fun e => .tup (off_new R hl) (e3.ext e)⟩⟩
      | fro zs =>
        have P : Fin X.K T ca H r h.length h (some (.tup zs)) Q := P
        obtain ⟨p, ws, e1, e2, e3⟩ := ra_list (h := h) R a rfl
        subst e1
        exact call_tuple_of pins s σ H _ us Q I rv ⟨p, ws, rfl, .inl ⟨e2, fun l hl => P.new R hl fun e => .tup (off_new R hl) (e3.ext e)⟩⟩
      | loc l =>
        have P : Fin X.K T ca H r h.length h ((listAt h (.loc l)).map .tup) Q := P
        cases es : listAt h (.loc l) with
        | none => rw [es] at P; exact P.elim
        | some zs =>
          rw [es] at P
          obtain ⟨p, ws, e1, e2, e3⟩ := ra_list R a es
          subst e1
          exact call_tuple_of pins s σ H _ us Q I rv ⟨p, ws, rfl, .inl ⟨e2, fun l hl => P.new R hl fun e => .tup (off_new R hl) (e3.ext e)⟩⟩
      | _ => exact P.elim
theorem insI_perm (i : Int) : ∀ l : List Int, (insI i l).Perm (i :: l)
  | [] => .refl _
  | j :: r => by
    unfold insI
    split
    · exact .refl _
    · exact ((insI_perm i r).cons j).trans (.swap i j r)
theorem insI_mem {i x : Int} {l : List Int} : x ∈ insI i l ↔ x = i ∨ x ∈ l := by
  rw [(insI_perm i l).mem_iff, List.mem_cons]
theorem insI_sorted (i : Int) : ∀ l : List Int, l.Pairwise (· ≤ ·) → (insI i l).Pairwise (· ≤ ·)
  | [], _ => by simp [insI]
  | j :: r, h => by
    rw [List.pairwise_cons] at h
    unfold insI
    split
    · rename_i hij
      rw [List.pairwise_cons, List.pairwise_cons]
      exact ⟨fun a ha => by rcases List.mem_cons.mp ha with e | e; · rw [e]; exact hij
                            · exact Int.le_trans hij (h.1 a e), h⟩
    · rename_i hij
      rw [List.pairwise_cons]
      exact ⟨fun a ha => by rcases insI_mem.mp ha with e | e; · rw [e]; omega
                            · exact h.1 a e, insI_sorted i r h.2⟩
theorem sortI_perm : ∀ l : List Int, (sortI l).Perm l
  | [] => .refl _
  | i :: r => (insI_perm i _).trans ((sortI_perm r).cons i)
theorem sortI_sorted : ∀ l : List Int, (sortI l).Pairwise (· ≤ ·)
  | [] => .nil
  | i :: r => insI_sorted i _ (sortI_sorted r)
theorem sortI_is {ys ks : List Int} (h : ys.Perm ks) (s : ys.Pairwise (· ≤ ·)) : ys = sortI ks :=
  List.Perm.eq_of_pairwise (fun x y _ _ h1 h2 => Int.le_antisymm h1 h2) s (sortI_sorted ks) (h.trans (sortI_perm ks).symm)
def leS (x y : Str) : Prop := ¬ (y.cps.toList < x.cps.toList)
theorem str_eq {x y : Str} (h : x.cps.toList = y.cps.toList) : x = y := by
  obtain ⟨a⟩ := x
  obtain ⟨b⟩ := y
  have e : a = b := Array.ext' h
  rw [e]
theorem leS_anti {x y : Str} (h1 : leS x y) (h2 : leS y x) : x = y := str_eq (List.le_antisymm (α := Nat) h1 h2)
theorem leS_trans {x y z : Str} (h1 : leS x y) (h2 : leS y z) : leS x z := List.le_trans (α := Nat) h1 h2
theorem leS_total {x y : Str} (h : ¬ leS x y) : leS y x := by
  unfold leS at *
  exact fun z => h (fun w => absurd z (List.not_lt.mpr (List.le_of_lt w)))
theorem insS_perm (i : Str) : ∀ l : List Str, (insS i l).Perm (i :: l)
  | [] => .refl _
  | j :: r => by
    unfold insS
    split
    · exact ((insS_perm i r).cons j).trans (.swap i j r)
    · exact .refl _
theorem insS_mem {i x : Str} {l : List Str} : x ∈ insS i l ↔ x = i ∨ x ∈ l := by
  rw [(insS_perm i l).mem_iff, List.mem_cons]
theorem insS_sorted (i : Str) : ∀ l : List Str, l.Pairwise leS → (insS i l).Pairwise leS
  | [], _ => by simp [insS]
  | j :: r, h => by
    rw [List.pairwise_cons] at h
    unfold insS
    split
    · rename_i hij
      rw [List.pairwise_cons]
      refine ⟨fun a ha => ?_, insS_sorted i r h.2⟩
      rcases insS_mem.mp ha with e | e
      · rw [e]
        exact List.le_of_lt (α := Nat) hij
      · exact h.1 a e
    · rename_i hij
      rw [List.pairwise_cons, List.pairwise_cons]
      refine ⟨fun a ha => ?_, h⟩
      rcases List.mem_cons.mp ha with e | e
      · rw [e]
        exact hij
      · exact leS_trans hij (h.1 a e)
theorem sortS_perm : ∀ l : List Str, (sortS l).Perm l
  | [] => .refl _
  | i :: r => (insS_perm i _).trans ((sortS_perm r).cons i)
theorem sortS_sorted : ∀ l : List Str, (sortS l).Pairwise leS
  | [] => .nil
  | i :: r => insS_sorted i _ (sortS_sorted r)
theorem rising_pw : ∀ (ys : List Str) (p : Str), risingS p ys = true → (p :: ys).Pairwise leS
  | [], p, _ => by simp
  | x :: r, p, h => by
    unfold risingS at h
    rw [Bool.and_eq_true, ltCps_eq] at h
    have ih := rising_pw r x h.2
    have hx : leS p x := by
      have := h.1
      unfold leS
      simpa using this
    rw [List.pairwise_cons]
    refine ⟨fun a ha => ?_, ih⟩
    rcases List.mem_cons.mp ha with e | e
    · rw [e]
      exact hx
    · exact leS_trans hx ((List.pairwise_cons.mp ih).1 a e)
theorem sortS_is {ys ks : List Str} (h : ys.Perm ks) (s : sortedS ys = true) : ys = sortS ks := by
  have sp : ys.Pairwise leS := by
    cases ys with
    | nil => exact .nil
    | cons x r => exact rising_pw r x s
  exact List.Perm.eq_of_pairwise (fun x y _ _ h1 h2 => leS_anti h1 h2) sp (sortS_sorted ks) (h.trans (sortS_perm ks).symm)
theorem rks_keys {K : PySem.W.Frag} {H : Hp} {r : Rho} {n : Nat} {kvs : List (Key × A)} {vs : List (Key × V)} (h : RKs K H r n kvs vs) : vs.map (·.1) = kvs.map (·.1) := by
  induction h with
  | nil => rfl
  | cons _ _ ih => simp [ih]
theorem keys_int : ∀ {ks : List Key} {is : List Int}, intsA (ks.map keyV) = some is → ks = is.map Sum.inl
  | [], _, e => by cases e; rfl
  | .inl i :: r, _, e => by
    simp only [List.map_cons, keyV, intsA, Option.map_eq_some_iff] at e
    obtain ⟨l, e1, e2⟩ := e
    subst e2
    rw [keys_int e1]
    rfl
  | .inr z :: r, _, e => by cases e
theorem keys_str : ∀ {ks : List Key} {is : List Str}, strsA (ks.map keyV) = some is → ks = is.map Sum.inr
  | [], _, e => by cases e; rfl
  | .inr i :: r, _, e => by
    simp only [List.map_cons, keyV, strsA, Option.map_eq_some_iff] at e
    obtain ⟨l, e1, e2⟩ := e
    subst e2
    rw [keys_str e1]
    rfl
  | .inl z :: r, _, e => by cases e
theorem bi_sorted (hc : X.calm = true) : CallR X (.builtin "sorted") (rCall X.K T ca fun h => biOp h .sorted) := by
  intro pins s σ H vs us Q I rv q
  obtain ⟨r, h, as, R, ra, P⟩ := q
  cases ra with
  | nil => exact P.elim
  | @cons x v xs vs a b =>
    cases b with
    | cons _ _ => exact P.elim
    | nil =>
      have P : Fin X.K T ca H r h.length h (match toSort h x with | some xs => (sortA xs).map A.lst | none => none) Q := P
      have lists : ∀ ys p ws, v = .ref p → SqL X.K H p ws → RAs X.K H r h.length ys ws → Fin X.K T ca H r h.length h ((sortA ys).map A.lst) Q → wpAny (model X.prog X.w) X.A (call (.builtin "sorted") us) (EP X pins σ Q) X.xe s := fun ys p ws ev hs rs P => by
        subst ev
        unfold sortA at P
        split at P
        · rename_i hz
          have hz := of_decide_eq_true hz
          split at P
          · rename_i is ei
            have ew := ras_ints rs ei
            subst ew
            have hl := rs.length
            rw [List.length_map] at hl
            refine cr_sorted pins s σ H _ us Q I rv ⟨p, is, rfl, hs, by omega, fun ns' q hp hs' hq => ?_⟩
            rw [sortI_is hp hs']
            exact P.new R hq fun e => .lst (off_new R hq) (of_ints _)
          · split at P
            · rename_i is ei
              have ew := ras_strs rs ei
              subst ew
              have hl := rs.length
              rw [List.length_map] at hl
              refine cr_sortedS pins s σ H _ us Q I rv ⟨p, is, rfl, hs, by omega, fun ns' q hp hs' hq => ?_⟩
              rw [sortS_is hp hs']
              exact P.new R hq fun e => .lst (off_new R hq) (of_strs _)
            · exact P.elim
        · exact P.elim
      cases a with
      | lst o hs => exact lists _ _ _ rfl o.sqL hs P
      | loc l hl =>
        simp only [toSort] at P
        cases eo : h[l]? with
        | none => rw [eo] at P; exact P.elim
        | some ob =>
          rw [eo] at P
          cases ob with
          | lst ys =>
            obtain ⟨ws, q, hs⟩ := R.obj l _ eo
            exact lists ys _ ws rfl (.inl (.inl q)) hs P
          | dic lk kvs =>
            cases lk with
            | true => exact P.elim
            | false =>
              obtain ⟨ws, q, hs⟩ := R.obj l _ eo
              dsimp only at P
              have ek : (kvs.map fun p => keyV p.1) = ((kvs.map (·.1)).map keyV) := by
                rw [List.map_map]
                rfl
              rw [ek] at P
              have hk := rks_keys hs
              unfold sortA at P
              split at P
              · rename_i hz
                have hz := of_decide_eq_true hz
                rw [List.length_map, List.length_map] at hz
                split at P
                · rename_i is ei
                  have e2 := keys_int ei
                  have hl : is.length < 64 := by
                    have := congrArg List.length e2
                    rw [List.length_map, List.length_map] at this
                    omega
                  refine call_sortedDI hc pins s σ H _ us Q I rv ⟨r l, ws, is, rfl, .inl q, hk.trans e2, hl, fun ns' q hp hs' hq => ?_⟩
                  rw [sortI_is hp hs']
                  exact P.new R hq fun e => .lst (off_new R hq) (of_ints _)
                · split at P
                  · rename_i is ei
                    have e2 := keys_str ei
                    have hl : is.length < 64 := by
                      have := congrArg List.length e2
                      rw [List.length_map, List.length_map] at this
                      omega
                    refine call_sortedD hc pins s σ H _ us Q I rv ⟨r l, ws, is, rfl, .inl q, hk.trans e2, hl, fun ns' q hp hs' hq => ?_⟩
                    rw [sortS_is hp hs']
                    exact P.new R hq fun e => .lst (off_new R hq) (of_strs _)
                  · exact P.elim
              · exact P.elim
          | ins _ _ => exact P.elim
      | _ => exact P.elim
end
end MI

namespace MI
open PySem PyProof.Rows L2
section
variable {X : Cx} {T : List (Addr × Str)} {ca : Str → Option Addr} {W : WX}
theorem je_var {i : Nat} {x : Str} {pos : Pos} (hN : X.N[i]? = some x) (hv : Vis X.env.scope x) (hd : (x == ("__debug__" : Str)) = false) (hcd : (x == ("__classdict__" : Str)) = false) :
    PE X (.Name x pos) (tM X.K T ca W fun s h => match s[i]? with | some (some v) => .ok v h | _ => .bad) := by
  refine (pe_var hN hv hd hcd).wk fun t H Q q => ?_
  obtain ⟨r, s, h, R, S, P⟩ := q
  dsimp only at P
  split at P
  · rename_i v ev
    obtain ⟨w, h1, h2⟩ := S.at_ i v ev
    exact ⟨w, h1, Post.here P R h2⟩
  · exact P.elim
theorem je_c {e : Expr} {a : A} {v : V} (he : PE X e (tC v)) (ha : ∀ H r n, RA X.K H r n a v) : PE X e (tM X.K T ca W fun _ h => .ok a h) := by
  refine he.wk fun t H Q q => ?_
  obtain ⟨r, s, h, R, S, P⟩ := q
  exact Post.here P R (ha H r _)
theorem je_cmp {a b : Expr} {op : CmpOp} {pos : Pos} {ma mb : ASt → AH → R A} (hu : X.A.units + 64 < cLine) (ha : PE X a (tM X.K T ca W ma)) (hb : PE X b (tM X.K T ca W mb)) (hm : behindInMarks op b = false) :
    PE X (.Compare a [op] [b] pos) (tM X.K T ca W fun s h => (ma s h).bind fun x h1 => (mb s h1).bind fun y h2 => R.of ((cmpOp h2 op x y).map .bl) h2) := by
  refine (pe_cmpR (oc_all hu op (T := T) (ca := ca)) ha hb hm).wk fun t H Q q => ?_
  obtain ⟨r, s, h, R, S, P⟩ := q
  refine ⟨r, s, h, R, S, P.bind (Rv := RA X.K) fun x h1 r1 H1 u1 e1 R1 v1 P1 => ⟨r1, s, h1, R1, S.ext e1, P1.bind (Rv := RA X.K) fun y h2 r2 H2 u2 e2 R2 v2 P2 => ?_⟩⟩
  exact ⟨r2, h2, x, y, R2, v1.ext e2, v2, fin_of P2⟩
theorem Post.bind_bind {α β γ δ : Type} {K : PySem.W.Frag} {Rv : Hp → Rho → Nat → γ → δ → Prop} {W' : Value → Option Addr → Hp → Prop} {H : Hp} {r : Rho} {n : Nat} {x : R α} {f : α → AH → R β} {g : β → AH → R γ} {Q : δ → Hp → Prop}
    (P : Post K T ca Rv W' H r n ((x.bind f).bind g) Q) : Post K T ca Rv W' H r n (x.bind fun v h => (f v h).bind g) Q := by
  cases x <;> exact P
/-- a test's end from a value's -/
theorem Post.test {K : PySem.W.Frag} {W' : Value → Option Addr → Hp → Prop} {H : Hp} {r : Rho} {n : Nat} {x : R A} {Q : Bool → Hp → Prop}
    (P : Post K T ca RBool W' H r n (x.bind fun v h1 => match v with | .bl b => .ok (.bl b) h1 | _ => .bad) Q) : Post K T ca (RA K) W' H r n x (fun v H' => ∃ k, v = .bl k ∧ Q k H') := by
  cases x with
  | bad => exact P
  | exc c h => exact P
  | ok v h =>
    intro r' H' u e R' ra
    cases ra with
    | bl k => exact ⟨k, rfl, P r' H' k e R' rfl⟩
    | _ => exact P.elim
theorem jt_val {e : Expr} {m : ASt → AH → R A} (h : PE X e (tM X.K T ca W m)) (he : ∀ whole, isTrue e X.env whole = (do let v ← whole; standAt e.pos; holding [v] (truthy v))) : PT X e (bM X.K T ca W m) := by
  refine (pt_val h he).wk fun t H Q q => ?_
  obtain ⟨r, s, h, R, S, P⟩ := q
  exact ⟨r, s, h, R, S, P.test⟩
theorem fin_test {K : PySem.W.Frag} {W' : Value → Option Addr → Hp → Prop} {H : Hp} {r : Rho} {n : Nat} {h : AH} {o : Option Bool} {Q : Bool → Hp → Prop} (P : Post K T ca RBool W' H r n ((R.of (o.map A.bl) h).bind fun v h1 => match v with | .bl b => .ok (.bl b) h1 | _ => .bad) Q) :
    Fin K T ca H r n h (o.map A.bl) (fun v H' => ∃ k, v = .bl k ∧ Q k H') := by
  cases o with
  | none => exact P
  | some z =>
    intro r' H' u e R' ra
    cases ra
    exact ⟨z, rfl, P r' H' z e R' rfl⟩
theorem jt_cmp {a b : Expr} {op : CmpOp} {pos : Pos} {ma mb : ASt → AH → R A} (hu : X.A.units + 64 < cLine) (ha : PE X a (tM X.K T ca W ma)) (hb : PE X b (tM X.K T ca W mb)) (hm : behindInMarks op b = false) :
    PT X (.Compare a [op] [b] pos) (bM X.K T ca W fun s h => (ma s h).bind fun x h1 => (mb s h1).bind fun y h2 => R.of ((cmpOp h2 op x y).map .bl) h2) := by
  refine (pt_cmpR (oc_all hu op (T := T) (ca := ca)) ha hb hm).wk fun t H Q q => ?_
  obtain ⟨r, s, h, R, S, P⟩ := q
  refine ⟨r, s, h, R, S, P.bind_bind.bind (Rv := RA X.K) fun x h1 r1 H1 u1 e1 R1 v1 P1 => ⟨r1, s, h1, R1, S.ext e1, P1.bind_bind.bind (Rv := RA X.K) fun y h2 r2 H2 u2 e2 R2 v2 P2 => ?_⟩⟩
  exact ⟨r2, h2, x, y, R2, v1.ext e2, v2, fin_test P2⟩
theorem je_chn {a b c : Expr} {op op' : CmpOp} {pos : Pos} {ma mb mc : ASt → AH → R A} (hu : X.A.units + 64 < cLine) (ha : PE X a (tM X.K T ca W ma)) (hb : PE X b (tM X.K T ca W mb)) (hc : PE X c (tM X.K T ca W mc)) (hm : lastMarks [op, op'] [b, c] = false) :
    PE X (.Compare a [op, op'] [b, c] pos) (tM X.K T ca W fun s h => (ma s h).bind fun x h1 => (mb s h1).bind fun y h2 =>
      match cmpOp h2 op x y with
      | some true => (mc s h2).bind fun z h3 => R.of ((cmpOp h3 op' y z).map .bl) h3
      | some false => .ok (.bl false) h2
      | none => .bad) := by
  refine (pe_chain (oc_all hu op (T := T) (ca := ca)) (oc_all hu op' (T := T) (ca := ca)) ha hb hc hm).wk fun t H Q q => ?_
  obtain ⟨r, s, h, R, S, P⟩ := q
  refine ⟨r, s, h, R, S, P.bind (Rv := RA X.K) fun x h1 r1 H1 u1 e1 R1 v1 P1 => ⟨r1, s, h1, R1, S.ext e1, P1.bind (Rv := RA X.K) fun y h2 r2 H2 u2 e2 R2 v2 P2 => ⟨r2, h2, x, y, R2, v1.ext e2, v2, ?_⟩⟩⟩
  show Fin X.K T ca H2 r2 h2.length h2 ((cmpOp h2 op x y).map A.bl) _
  cases ec : cmpOp h2 op x y with
  | none => rw [ec] at P2; exact P2
  | some k =>
    rw [ec] at P2
    intro r3 H3 u3 e3 R3 v3
    cases v3
    refine ⟨k, rfl, ?_⟩
    cases k with
    | false => exact iteF (P2 r3 H3 _ e3 R3 (.bl _))
    | true =>
      refine iteT ⟨r3, s, h2, R3, ((S.ext e1).ext e2).ext e3, ?_⟩
      have P2 : Post X.K T ca (RA X.K) _ H2 r2 h2.length ((mc s h2).bind fun z h3 => MI.R.of ((cmpOp h3 op' y z).map A.bl) h3) Q := P2
      refine (Post.step e3 P2).bind (Rv := RA X.K) fun z h4 r4 H4 u4 e4 R4 v4 P4 => ⟨r4, h4, y, z, R4, (v2.ext e3).ext e4, v4, fin_of P4⟩
theorem jt_chn {a b c : Expr} {op op' : CmpOp} {pos : Pos} {ma mb mc : ASt → AH → R A} (hu : X.A.units + 64 < cLine) (ha : PE X a (tM X.K T ca W ma)) (hb : PE X b (tM X.K T ca W mb)) (hc : PE X c (tM X.K T ca W mc)) (hm : lastMarks [op, op'] [b, c] = false) :
    PT X (.Compare a [op, op'] [b, c] pos) (bM X.K T ca W fun s h => (ma s h).bind fun x h1 => (mb s h1).bind fun y h2 =>
      match cmpOp h2 op x y with
      | some true => (mc s h2).bind fun z h3 => R.of ((cmpOp h3 op' y z).map .bl) h3
      | some false => .ok (.bl false) h2
      | none => .bad) := by
  refine (pt_chain (oc_all hu op (T := T) (ca := ca)) (oc_all hu op' (T := T) (ca := ca)) ha hb hc hm).wk fun t H Q q => ?_
  obtain ⟨r, s, h, R, S, P⟩ := q
  refine ⟨r, s, h, R, S, P.bind_bind.bind (Rv := RA X.K) fun x h1 r1 H1 u1 e1 R1 v1 P1 => ⟨r1, s, h1, R1, S.ext e1, P1.bind_bind.bind (Rv := RA X.K) fun y h2 r2 H2 u2 e2 R2 v2 P2 => ⟨r2, h2, x, y, R2, v1.ext e2, v2, ?_⟩⟩⟩
  show Fin X.K T ca H2 r2 h2.length h2 ((cmpOp h2 op x y).map A.bl) _
  cases ec : cmpOp h2 op x y with
  | none => rw [ec] at P2; exact P2
  | some k =>
    rw [ec] at P2
    intro r3 H3 u3 e3 R3 v3
    cases v3
    refine ⟨k, rfl, ?_⟩
    cases k with
    | false => exact iteF ⟨false, rfl, P2 r3 H3 _ e3 R3 rfl⟩
    | true =>
      refine iteT ⟨r3, s, h2, R3, ((S.ext e1).ext e2).ext e3, ?_⟩
      have P2 : Post X.K T ca RBool _ H2 r2 h2.length (((mc s h2).bind fun z h3 => MI.R.of ((cmpOp h3 op' y z).map A.bl) h3).bind fun v h1 => match v with | A.bl b => MI.R.ok (A.bl b) h1 | _ => MI.R.bad) Q := P2
      refine (Post.step e3 P2).bind_bind.bind (Rv := RA X.K) fun z h4 r4 H4 u4 e4 R4 v4 P4 => ⟨r4, h4, y, z, R4, (v2.ext e3).ext e4, v4, fin_test P4⟩
/-- the value of a conjunction, a disjunction -/
def mAnd (ma mb : ASt → AH → R A) : ASt → AH → R A := fun s h => (ma s h).bind fun x h1 => match x with
      | .bl true => (mb s h1).bind fun y h2 => match y with | .bl k => .ok (.bl k) h2 | _ => .bad
      | .bl false => .ok (.bl false) h1
      | _ => .bad
def mOr (ma mb : ASt → AH → R A) : ASt → AH → R A := fun s h => (ma s h).bind fun x h1 => match x with
      | .bl false => (mb s h1).bind fun y h2 => match y with | .bl k => .ok (.bl k) h2 | _ => .bad
      | .bl true => .ok (.bl true) h1
      | _ => .bad
def mNot (ma : ASt → AH → R A) : ASt → AH → R A := fun s h => (ma s h).bind fun x h1 => match x with | .bl k => .ok (.bl (!k)) h1 | _ => .bad
def mIf (mc ma mb : ASt → AH → R A) : ASt → AH → R A := fun s h => (mc s h).bind fun x h1 => match x with
      | .bl true => ma s h1
      | .bl false => mb s h1
      | _ => .bad
/-- what must be a truth -/
def mB (m : ASt → AH → R A) : ASt → AH → R A := fun s h => (m s h).bind fun y h2 => match y with | .bl k => .ok (.bl k) h2 | _ => .bad
theorem mb_post {K : PySem.W.Frag} {W' : Value → Option Addr → Hp → Prop} {H : Hp} {r : Rho} {n : Nat} {x : R A} {Q : VK} (P : Post K T ca (RA K) W' H r n (x.bind fun y h2 => match y with | .bl k => .ok (.bl k) h2 | _ => .bad) Q) : Post K T ca (RA K) W' H r n x Q := by
  cases x with
  | bad => exact P
  | exc c h => exact P
  | ok v h =>
    cases v with
    | bl k => exact P
    | _ => exact P.elim
theorem je_one {a : Expr} {op : BoolOp} {pos : Pos} {m : ASt → AH → R A} (h : PE X a (tM X.K T ca W m)) : PE X (.BoolOp op [a] pos) (tM X.K T ca W (mB m)) := (pe_one h).wk fun t H Q q => by
  obtain ⟨r, s, h, R, S, P⟩ := q
  exact ⟨r, s, h, R, S, mb_post P⟩
theorem je_and {a b : Expr} {rest : List Expr} {pos : Pos} {ma mb : ASt → AH → R A} (ha : PE X a (tM X.K T ca W ma)) (hb : PE X (.BoolOp .And (b :: rest) pos) (tM X.K T ca W mb)) : PE X (.BoolOp .And (a :: b :: rest) pos) (tM X.K T ca W (mAnd ma mb)) := by
  refine (pe_and ha hb).wk fun t H Q q => ?_
  obtain ⟨r, s, h, R, S, P⟩ := q
  refine ⟨r, s, h, R, S, P.bind (Rv := RA X.K) fun x h1 r1 H1 u1 e1 R1 v1 P1 => ?_⟩
  cases v1 with
  | bl k =>
    refine ⟨k, rfl, ?_⟩
    cases k with
    | true => exact iteT ⟨r1, s, h1, R1, S.ext e1, mb_post P1⟩
    | false => exact iteF (Post.here P1 R1 (.bl _))
  | _ => exact P1.elim
theorem je_or {a b : Expr} {rest : List Expr} {pos : Pos} {ma mb : ASt → AH → R A} (ha : PE X a (tM X.K T ca W ma)) (hb : PE X (.BoolOp .Or (b :: rest) pos) (tM X.K T ca W mb)) : PE X (.BoolOp .Or (a :: b :: rest) pos) (tM X.K T ca W (mOr ma mb)) := by
  refine (pe_or ha hb).wk fun t H Q q => ?_
  obtain ⟨r, s, h, R, S, P⟩ := q
  refine ⟨r, s, h, R, S, P.bind (Rv := RA X.K) fun x h1 r1 H1 u1 e1 R1 v1 P1 => ?_⟩
  cases v1 with
  | bl k =>
    refine ⟨k, rfl, ?_⟩
    cases k with
    | false => exact iteF ⟨r1, s, h1, R1, S.ext e1, mb_post P1⟩
    | true => exact iteT (Post.here P1 R1 (.bl _))
  | _ => exact P1.elim
theorem je_not {a : Expr} {pos : Pos} {ma : ASt → AH → R A} (ha : PE X a (tM X.K T ca W ma)) : PE X (.UnaryOp .Not a pos) (tM X.K T ca W (mNot ma)) := by
  refine (pe_not ha).wk fun t H Q q => ?_
  obtain ⟨r, s, h, R, S, P⟩ := q
  refine ⟨r, s, h, R, S, P.bind (Rv := RA X.K) fun x h1 r1 H1 u1 e1 R1 v1 P1 => ?_⟩
  cases v1 with
  | bl k => exact ⟨k, rfl, Post.here P1 R1 (.bl _)⟩
  | _ => exact P1.elim
/-- tests -/
theorem bm_and {ma mb : ASt → AH → R A} {t : L2.St} {H : Hp} {Q : Bool → Hp → Prop} {K : PySem.W.Frag} (q : bM K T ca W (mAnd ma mb) t H Q) : tAnd (bM K T ca W ma) (bM K T ca W mb) t H Q := by
  obtain ⟨r, s, h, R, S, P⟩ := q
  refine ⟨r, s, h, R, S, ?_⟩
  have P : Post K T ca RBool _ H r h.length ((mAnd ma mb s h).bind fun v h1 => match v with | A.bl b => MI.R.ok (A.bl b) h1 | _ => MI.R.bad) Q := P
  unfold mAnd at P
  cases em : ma s h with
  | bad => rw [em] at P; exact P
  | exc c h1 => rw [em] at P; exact P
  | ok v h1 =>
    rw [em] at P
    cases v with
    | bl k =>
      intro r1 H1 b e1 R1 eb
      cases eb
      cases k with
      | false => exact iteF (P r1 H1 false e1 R1 rfl)
      | true =>
        refine iteT ⟨r1, s, h1, R1, S.ext e1, ?_⟩
        refine Post.step e1 ?_
        have P : Post K T ca RBool _ H r h.length (((mb s h1).bind fun y h2 => match y with | A.bl k => MI.R.ok (A.bl k) h2 | _ => MI.R.bad).bind fun v h1 => match v with | A.bl b => MI.R.ok (A.bl b) h1 | _ => MI.R.bad) Q := P
        cases eb : mb s h1 with
        | bad => rw [eb] at P; exact P
        | exc c h2 => rw [eb] at P; exact P
        | ok w h2 =>
          rw [eb] at P
          cases w with
          | bl k => exact P
          | _ => exact P.elim
    | _ => exact P.elim
theorem bm_or {ma mb : ASt → AH → R A} {t : L2.St} {H : Hp} {Q : Bool → Hp → Prop} {K : PySem.W.Frag} (q : bM K T ca W (mOr ma mb) t H Q) : tOr (bM K T ca W ma) (bM K T ca W mb) t H Q := by
  obtain ⟨r, s, h, R, S, P⟩ := q
  refine ⟨r, s, h, R, S, ?_⟩
  have P : Post K T ca RBool _ H r h.length ((mOr ma mb s h).bind fun v h1 => match v with | A.bl b => MI.R.ok (A.bl b) h1 | _ => MI.R.bad) Q := P
  unfold mOr at P
  cases em : ma s h with
  | bad => rw [em] at P; exact P
  | exc c h1 => rw [em] at P; exact P
  | ok v h1 =>
    rw [em] at P
    cases v with
    | bl k =>
      intro r1 H1 b e1 R1 eb
      cases eb
      cases k with
      | true => exact iteT (P r1 H1 true e1 R1 rfl)
      | false =>
        refine iteF ⟨r1, s, h1, R1, S.ext e1, ?_⟩
        refine Post.step e1 ?_
        have P : Post K T ca RBool _ H r h.length (((mb s h1).bind fun y h2 => match y with | A.bl k => MI.R.ok (A.bl k) h2 | _ => MI.R.bad).bind fun v h1 => match v with | A.bl b => MI.R.ok (A.bl b) h1 | _ => MI.R.bad) Q := P
        cases eb : mb s h1 with
        | bad => rw [eb] at P; exact P
        | exc c h2 => rw [eb] at P; exact P
        | ok w h2 =>
          rw [eb] at P
          cases w with
          | bl k => exact P
          | _ => exact P.elim
    | _ => exact P.elim
theorem bm_B {m : ASt → AH → R A} {t : L2.St} {H : Hp} {Q : Bool → Hp → Prop} {K : PySem.W.Frag} (q : bM K T ca W (mB m) t H Q) : bM K T ca W m t H Q := by
  obtain ⟨r, s, h, R, S, P⟩ := q
  refine ⟨r, s, h, R, S, ?_⟩
  have P : Post K T ca RBool _ H r h.length ((mB m s h).bind fun v h1 => match v with | A.bl b => MI.R.ok (A.bl b) h1 | _ => MI.R.bad) Q := P
  unfold mB at P
  cases em : m s h with
  | bad => rw [em] at P; exact P
  | exc c h1 => rw [em] at P; exact P
  | ok v h1 =>
    rw [em] at P
    cases v with
    | bl k => exact P
    | _ => exact P.elim
theorem jw_and1 {a : Expr} {pos : Pos} {ma : ASt → AH → R A} (ha : PT X a (bM X.K T ca W ma)) : PW X (.BoolOp .And [a] pos) (bM X.K T ca W (mB ma)) := (pw_and1 ha).wk fun _ _ _ q => bm_B q
theorem jw_or1 {a : Expr} {pos : Pos} {ma : ASt → AH → R A} (ha : PT X a (bM X.K T ca W ma)) : PW X (.BoolOp .Or [a] pos) (bM X.K T ca W (mB ma)) := (pw_or1 ha).wk fun _ _ _ q => bm_B q
theorem jw_and {a b : Expr} {rest : List Expr} {pos : Pos} {ma mb : ASt → AH → R A} (ha : PT X a (bM X.K T ca W ma)) (hb : PW X (.BoolOp .And (b :: rest) pos) (bM X.K T ca W mb)) : PW X (.BoolOp .And (a :: b :: rest) pos) (bM X.K T ca W (mAnd ma mb)) := (pw_and ha hb).wk fun _ _ _ q => bm_and q
theorem jw_or {a b : Expr} {rest : List Expr} {pos : Pos} {ma mb : ASt → AH → R A} (ha : PT X a (bM X.K T ca W ma)) (hb : PW X (.BoolOp .Or (b :: rest) pos) (bM X.K T ca W mb)) : PW X (.BoolOp .Or (a :: b :: rest) pos) (bM X.K T ca W (mOr ma mb)) := (pw_or ha hb).wk fun _ _ _ q => bm_or q
theorem jt_not {a : Expr} {pos : Pos} {ma : ASt → AH → R A} (ha : PT X a (bM X.K T ca W ma)) : PT X (.UnaryOp .Not a pos) (bM X.K T ca W (mNot ma)) := by
  refine (pt_not ha).wk fun t H Q q => ?_
  obtain ⟨r, s, h, R, S, P⟩ := q
  refine ⟨r, s, h, R, S, ?_⟩
  have P : Post X.K T ca RBool _ H r h.length ((mNot ma s h).bind fun v h1 => match v with | A.bl b => MI.R.ok (A.bl b) h1 | _ => MI.R.bad) Q := P
  unfold mNot at P
  cases em : ma s h with
  | bad => rw [em] at P; exact P
  | exc c h1 => rw [em] at P; exact P
  | ok v h1 =>
    rw [em] at P
    cases v with
    | bl k =>
      intro r1 H1 b e1 R1 eb
      cases eb
      exact P r1 H1 (!k) e1 R1 rfl
    | _ => exact P.elim
theorem je_if {c a b : Expr} {pos : Pos} {mc ma mb : ASt → AH → R A} (hc : PT X c (bM X.K T ca W mc)) (ha : PE X a (tM X.K T ca W ma)) (hb : PE X b (tM X.K T ca W mb)) : PE X (.IfExp c a b pos) (tM X.K T ca W (mIf mc ma mb)) := by
  refine (pe_ifExp hc ha hb).wk fun t H Q q => ?_
  obtain ⟨r, s, h, R, S, P⟩ := q
  refine ⟨r, s, h, R, S, ?_⟩
  have P : Post X.K T ca (RA X.K) _ H r h.length (mIf mc ma mb s h) Q := P
  unfold mIf at P
  cases em : mc s h with
  | bad => rw [em] at P; exact P
  | exc c h1 => rw [em] at P; exact P
  | ok v h1 =>
    rw [em] at P
    cases v with
    | bl k =>
      intro r1 H1 b e1 R1 eb
      cases eb
      cases k with
      | true => exact iteT ⟨r1, s, h1, R1, S.ext e1, Post.step e1 P⟩
      | false => exact iteF ⟨r1, s, h1, R1, S.ext e1, Post.step e1 P⟩
    | _ => exact P.elim
theorem jt_if {c a b : Expr} {pos : Pos} {mc ma mb : ASt → AH → R A} (hc : PT X c (bM X.K T ca W mc)) (ha : PT X a (bM X.K T ca W ma)) (hb : PT X b (bM X.K T ca W mb)) : PT X (.IfExp c a b pos) (bM X.K T ca W (mIf mc ma mb)) := by
  refine ⟨fun pins s σ H Q I q => ?_⟩
  obtain ⟨r, st, h, R, S, P⟩ := q
  show wpAny _ _ (do if ← isTrue c X.env (eval c X.env) then isTrue a X.env (eval a X.env) else isTrue b X.env (eval b X.env)) _ _ _
  refine wpAny_bind (thn (hc.run pins s σ H (fun k H1 => if k = true then bM X.K T ca W ma σ H1 Q else bM X.K T ca W mb σ H1 Q) I ⟨r, st, h, R, S, ?_⟩) fun k s1 ⟨H1, I1, q1⟩ => ?_)
  · have P : Post X.K T ca RBool _ H r h.length ((mIf mc ma mb st h).bind fun v h1 => match v with | A.bl b => MI.R.ok (A.bl b) h1 | _ => MI.R.bad) Q := P
    unfold mIf at P
    cases em : mc st h with
    | bad => rw [em] at P; exact P
    | exc c h1 => rw [em] at P; exact P
    | ok v h1 =>
      rw [em] at P
      cases v with
      | bl k =>
        intro r1 H1 b e1 R1 eb
        cases eb
        cases k with
        | true => exact iteT ⟨r1, st, h1, R1, S.ext e1, Post.step e1 P⟩
        | false => exact iteF ⟨r1, st, h1, R1, S.ext e1, Post.step e1 P⟩
      | _ => exact P.elim
  · cases k with
    | true =>
      rw [if_pos rfl] at q1 ⊢
      exact ha.run pins s1 σ H1 Q I1 q1
    | false =>
      rw [if_neg Bool.false_ne_true] at q1 ⊢
      exact hb.run pins s1 σ H1 Q I1 q1
theorem ja_nil : PA X [] (aM X.K T ca W fun _ h => .ok [] h) := pa_nil.wk fun t H Q q => by
  obtain ⟨r, s, h, R, S, P⟩ := q
  exact Post.here (Rv := RAs X.K) P R .nil
theorem ja_cons {e : Expr} {es : List Expr} {m : ASt → AH → R A} {ms : ASt → AH → R (List A)} (he : PE X e (tM X.K T ca W m)) (hr : PA X es (aM X.K T ca W ms)) (hs : starEach (e :: es) X.env = (false, eval e X.env) :: starEach es X.env) :
    PA X (e :: es) (aM X.K T ca W fun s h => (m s h).bind fun x h1 => (ms s h1).bind fun xs h2 => .ok (x :: xs) h2) := by
  refine (pa_cons he hr hs).wk fun t H Q q => ?_
  obtain ⟨r, s, h, R, S, P⟩ := q
  refine ⟨r, s, h, R, S, P.bind (Rv := RA X.K) fun x h1 r1 H1 u1 e1 R1 v1 P1 => ⟨r1, s, h1, R1, S.ext e1, P1.bind (Rv := RAs X.K) fun y h2 r2 H2 u2 e2 R2 v2 P2 => ?_⟩⟩
  exact Post.here (Rv := RAs X.K) P2 R2 (.cons (v1.ext e2) v2)
theorem Post.ite {α β : Type} {K : PySem.W.Frag} {Rv : Hp → Rho → Nat → α → β → Prop} {W' : Value → Option Addr → Hp → Prop} {H : Hp} {r : Rho} {n : Nat} {x : R α} {c : Bool} {Q : β → Hp → Prop} (P : Post K T ca Rv W' H r n (if c = true then x else .bad) Q) : c = true ∧ Post K T ca Rv W' H r n x Q := by
  cases c with
  | true => exact ⟨rfl, P⟩
  | false => exact P.elim
theorem je_tup {es : List Expr} {k : Nat} {pos : Pos} {m : ASt → AH → R (List A)} (h : PA X es (aM X.K T ca W m)) : PE X (.Tuple es k pos) (tM X.K T ca W fun s h => (m s h).bind fun vs h1 => if small vs.length then .ok (.tup vs) h1 else .bad) := by
  refine (pe_tup h).wk fun t H Q q => ?_
  obtain ⟨r, s, h, R, S, P⟩ := q
  refine ⟨r, s, h, R, S, P.bind (Rv := RAs X.K) fun x h1 r1 H1 u1 e1 R1 v1 P1 => ?_⟩
  obtain ⟨hz, P1⟩ := P1.ite
  refine ⟨by rw [← v1.length]; exact small_le hz, fun p hp => ?_⟩
  exact P1 r1 _ _ (Ext.new r1 _ hp) (R1.new hp) (.tup (off_new R1 hp) (v1.ext (Ext.new r1 _ hp)))
/-- a new list: a value, or a place -/
theorem newL_ok {K : PySem.W.Frag} {W' : Value → Option Addr → Hp → Prop} {H : Hp} {r : Rho} {h : AH} {al : Bool} {xs : List A} {vs : List V} {Q : VK} {p : Addr} (R : Rel K T ca H r h) (rs : RAs K H r h.length xs vs) (hp : H p = none)
    (P : Post K T ca (RA K) W' H r h.length (newL al xs h) Q) : Q (.ref p) (upd H p (.lst vs)) := by
  cases al with
  | false => exact P r _ _ (Ext.new r _ hp) (R.new hp) (.lst (off_new R hp) (rs.ext (Ext.new r _ hp)))
  | true =>
    have e : Ext H r h.length (upd H p (.lst vs)) (grow r h.length p) (h.length + 1) := Ext.grow hp
    have R' : Rel K T ca (upd H p (.lst vs)) (grow r h.length p) (h ++ [.lst xs]) := R.grow hp ⟨vs, upd_same, rs.ext e⟩
    have q := P (grow r h.length p) (upd H p (.lst vs)) (.ref (grow r h.length p h.length)) (by rw [List.length_append]; exact e) R' (.loc h.length (by rw [List.length_append]; exact Nat.lt_succ_self _))
    rw [grow_at] at q
    exact q
theorem je_lst {es : List Expr} {pos : Pos} {al : Bool} {m : ASt → AH → R (List A)} (h : PA X es (aM X.K T ca W m)) : PE X (.List es pos) (tM X.K T ca W fun s h => (m s h).bind fun vs h1 => if small vs.length then newL al vs h1 else .bad) := by
  refine (pe_lst h).wk fun t H Q q => ?_
  obtain ⟨r, s, h, R, S, P⟩ := q
  refine ⟨r, s, h, R, S, P.bind (Rv := RAs X.K) fun x h1 r1 H1 u1 e1 R1 v1 P1 => ?_⟩
  obtain ⟨hz, P1⟩ := P1.ite
  exact ⟨by rw [← v1.length]; exact small_le hz, fun p hp => newL_ok R1 v1 hp P1⟩
theorem je_ix {a b : Expr} {pos : Pos} {ma mb : ASt → AH → R A} (hu : X.A.units + 64 < cLine) (ha : PE X a (tM X.K T ca W ma)) (hb : PE X b (tM X.K T ca W mb)) (hs : PlainIx b) :
    PE X (.Subscript a b pos) (tM X.K T ca W fun s h => (ma s h).bind fun x h1 => (mb s h1).bind fun y h2 => R.of (ixA h2 x y) h2) := by
  refine (pe_ix (ix_all hu (T := T) (ca := ca)) ha hb hs).wk fun t H Q q => ?_
  obtain ⟨r, s, h, R, S, P⟩ := q
  refine ⟨r, s, h, R, S, P.bind (Rv := RA X.K) fun x h1 r1 H1 u1 e1 R1 v1 P1 => ⟨r1, s, h1, R1, S.ext e1, P1.bind (Rv := RA X.K) fun y h2 r2 H2 u2 e2 R2 v2 P2 => ?_⟩⟩
  exact ⟨r2, h2, x, y, R2, v1.ext e2, v2, fin_of P2⟩
theorem je_neg {a : Expr} {pos : Pos} {ma : ASt → AH → R A} (ha : PE X a (tM X.K T ca W ma)) : PE X (.UnaryOp .USub a pos) (tM X.K T ca W fun s h => (ma s h).bind fun x h1 => match x with | .int i => .ok (.int (-i)) h1 | _ => .bad) := by
  refine (pe_un un_neg ha).wk fun t H Q q => ?_
  obtain ⟨r, s, h, R, S, P⟩ := q
  refine ⟨r, s, h, R, S, P.bind (Rv := RA X.K) fun x h1 r1 H1 u1 e1 R1 v1 P1 => ?_⟩
  cases v1 with
  | int i => exact ⟨i, rfl, Post.here P1 R1 (.int _)⟩
  | _ => exact P1.elim
end
end MI

namespace MI
open PySem PyProof.Rows L2
abbrev cW (E : XK) : WX := fun c d _ H => E c d H
section
variable {X : Cx} {T : List (Addr × Str)} {ca : Str → Option Addr} {W : WX} {E : XK}
def tyName : Ty6 → String
  | .int => "int"
  | .bool => "bool"
  | .str => "str"
  | .tuple => "tuple"
  | .list => "list"
  | .dict => "dict"
theorem kit_tab : ∀ t : Ty6, kitB "NoneType" (tyName t) = some false ∧ kitB "bool" (tyName t) = some (decide (t = .bool) || decide (t = .int)) ∧ kitB "int" (tyName t) = some (decide (t = .int)) ∧ kitB "str" (tyName t) = some (decide (t = .str)) ∧
    kitB "tuple" (tyName t) = some (decide (t = .tuple)) ∧ kitB "list" (tyName t) = some (decide (t = .list)) ∧ kitB "dict" (tyName t) = some (decide (t = .dict)) := by
  intro t
  cases t <;> decide +kernel
theorem isi_ok {K : PySem.W.Frag} {H : Hp} {r : Rho} {h : AH} {a : A} {v : V} {t : Ty6} {b : Bool} (R : Rel K T ca H r h) (ra : RA K H r h.length a v) (e : isiA h a t = some b) : ∃ ty, TyX K H v (.type ty) ∧ kitB ty (tyName t) = some b := by
  obtain ⟨k1, k2, k3, k4, k5, k6, k7⟩ := kit_tab t
  cases ra with
  | non => cases e; exact ⟨_, .base .non, k1⟩
  | bl x => exact ⟨_, .base (.bl x), k2.trans e⟩
  | int x => exact ⟨_, .base (.int x), k3.trans e⟩
  | str x => exact ⟨_, .base (.str x), k4.trans e⟩
  | tup o hs => exact ⟨_, .base (.tup o.1), k5.trans e⟩
  | tupK o hs =>
    obtain ⟨ob, its, n, h1, h2, _⟩ := o
    exact ⟨_, .kTuple h1 h2, k5.trans e⟩
  | lst o hs => exact ⟨_, .base (.lst o.1), k6.trans e⟩
  | fro o hs => exact ⟨_, .base (.frz o.1), k6.trans e⟩
  | froK o hs =>
    obtain ⟨ob, its, n, h1, h2, _⟩ := o
    exact ⟨_, .kList h1 h2, k6.trans e⟩
  | froL o hs => exact ⟨_, .base (.lst o.1), k6.trans e⟩
  | loc l hl =>
    simp only [isiA] at e
    split at e
    · rename_i xs ex
      obtain ⟨vs, q, _⟩ := R.obj l _ ex
      exact ⟨_, .base (.lst q), k6.trans e⟩
    · rename_i lk kvs ex
      have q := R.obj l _ ex
      cases lk with
      | false =>
        obtain ⟨vs, q, _⟩ := q
        exact ⟨_, .base (.dK q), k7.trans e⟩
      | true =>
        obtain ⟨o, vs, q, _⟩ := q
        exact ⟨_, .fDict q, k7.trans e⟩
    · cases e
theorem je_isi {a : Expr} {p q pos : Pos} {t : Ty6} {x : Str} {ma : ASt → AH → R A} (ha : PE X a (tM X.K T ca W ma)) (hg : Gl X "isinstance") (hm : X.mg "isinstance" = none) (hgx : Gl X x) (hmx : X.mg x = none) (hx : bootBuiltins x = some (.type (tyName t)))
    (hnx : x ≠ "__name__") (hdx : (x == ("__debug__" : Str)) = false) (hs : starEach [a, .Name x q] X.env = (false, eval a X.env) :: starEach [.Name x q] X.env) :
    PE X (.Call (.Name "isinstance" p) [a, .Name x q] [] pos) (tM X.K T ca W fun s h => (ma s h).bind fun x h1 => R.of ((isiA h1 x t).map .bl) h1) := by
  refine (pe_callB call_isi hg hm (by decide +kernel) (pa_cons ha (pa_cons (pe_bltn hgx hmx hx (v := .ty (tyName t)) rfl hnx hdx) pa_nil) hs) (by decide) (by decide) hs).wk fun t' H Q q => ?_
  obtain ⟨r, s, h, R, S, P⟩ := q
  refine ⟨r, s, h, R, S, P.bind (Rv := RA X.K) fun x h1 r1 H1 u1 e1 R1 v1 P1 => ?_⟩
  cases ek : isiA h1 x t with
  | none => rw [ek] at P1; exact P1.elim
  | some b =>
    rw [ek] at P1
    obtain ⟨ty, h2, h3⟩ := isi_ok R1 v1 ek
    exact ⟨u1, .ty (tyName t), .type ty, .type (tyName t), b, rfl, .ty _, h2, kit_ty h3, Post.here P1 R1 (.bl _)⟩
theorem mget {α : Type} {o : Option α} {p : Prop} (h : o.isSome = true) (k : ∀ a, o = some a → p) : p := by
  cases o with
  | none => cases h
  | some a => exact k a rfl
theorem je_append {o e : Expr} {apos cpos : Pos} {mo : ASt → AH → R A} {ms : ASt → AH → R (List A)} (ho : PE X o (tM X.K T ca W mo)) (ha : PA X [e] (aM X.K T ca W ms)) (hbase : attributeBase o "append" X.env (eval o X.env) = eval o X.env) (hline : (apos.endLine == cpos.line) = true)
    (hs : starEach [e] X.env = (false, eval e X.env) :: starEach [] X.env) :
    PE X (.Call (.Attribute o "append" apos) [e] [] cpos) (tM X.K T ca W fun s h => (mo s h).bind fun x h1 => if recvOk .append x h1 then (ms s h1).bind fun vs h2 => bmOp .append x vs h2 else .bad) := by
  refine (pe_bm PySem.F.plainAttrs_list PySem.F.slot_list_append PySem.F.type_list_append mt_append ho ha hbase (by rw [hs]; rfl) hline hs rfl).wk fun t H Q q => ?_
  obtain ⟨r, s, h, R, S, P⟩ := q
  refine ⟨r, s, h, R, S, P.bind (Rv := RA X.K) fun x h1 r1 H1 u1 e1 R1 v1 P1 => ?_⟩
  obtain ⟨hk, P1⟩ := P1.ite
  cases v1 with
  | loc l hl =>
    refine ⟨?_, ⟨r1, s, h1, R1, S.ext e1, P1.bind (Rv := RAs X.K) fun vs h2 r2 H2 u2 e2 R2 v2 P2 => ?_⟩⟩
    · simp only [recvOk] at hk
      split at hk
      · rename_i ys ey
        obtain ⟨vs, q, _⟩ := R1.obj l _ ey
        exact .inl ⟨rfl, vs, .inl (.inl q)⟩
      · cases hk
    · cases v2 with
      | nil => exact P2.elim
      | @cons xa va _ _ a b =>
        cases b with
        | cons _ _ => exact P2.elim
        | nil =>
          simp only [bmOp] at P2
          split at P2
          · rename_i ys ey
            split at P2
            · rename_i hz
              obtain ⟨ws, q, rs⟩ := R2.obj l _ ey
              have hl2 : l < h2.length := (List.getElem?_eq_some_iff.mp ey).1
              have el : r1 l = r2 l := (e2.same l hl).symm
              have ep : Ext H2 r2 h2.length (upd H2 (r2 l) (.lst (ws ++ [va]))) r2 h2.length := Ext.put hl2 q
              refine ⟨r2 l, ws, _, by rw [el], rfl, q, by rw [← rs.length]; exact small_lt hz, ?_⟩
              refine P2 r2 _ .non (by rw [List.length_set]; exact ep) (R2.put hl2 ⟨_, upd_same, (rs.ext ep).append (.cons (a.ext ep) .nil)⟩) .non
            · exact P2.elim
          · exact P2.elim
  | _ => cases hk
theorem findV_spec {y : V} : ∀ (n : Nat) (xs : List V) (k : Nat), findV y n xs = some k → ∃ j z, k = n + j ∧ xs[j]? = some z ∧ eqV z y = true ∧ ∀ (m : Nat) (z' : V), m < j → xs[m]? = some z' → eqV z' y = false
  | n, [], k, e => by cases e
  | n, x :: r, k, e => by
    unfold findV at e
    split at e
    · rename_i h
      cases e
      exact ⟨0, x, rfl, rfl, h, fun m _ hm => absurd hm (Nat.not_lt_zero m)⟩
    · rename_i h
      obtain ⟨j, z, e1, e2, e3, e4⟩ := findV_spec (n + 1) r k e
      refine ⟨j + 1, z, by omega, by simpa using e2, e3, fun m z' hm ez => ?_⟩
      cases m with
      | zero =>
        simp at ez
        subst ez
        simpa using h
      | succ m => exact e4 m z' (by omega) (by simpa using ez)
theorem je_index {o e : Expr} {apos cpos : Pos} {mo : ASt → AH → R A} {ms : ASt → AH → R (List A)} (ho : PE X o (tM X.K T ca W mo)) (ha : PA X [e] (aM X.K T ca W ms)) (hbase : attributeBase o "index" X.env (eval o X.env) = eval o X.env) (hline : (apos.endLine == cpos.line) = true)
    (hs : starEach [e] X.env = (false, eval e X.env) :: starEach [] X.env) :
    PE X (.Call (.Attribute o "index" apos) [e] [] cpos) (tM X.K T ca W fun s h => (mo s h).bind fun x h1 => if recvOk .index x h1 then (ms s h1).bind fun vs h2 => bmOp .index x vs h2 else .bad) := by
  refine (pe_bm PySem.F.plainAttrs_list PySem.F.slot_list_index PySem.F.type_list_index mt_index ho ha hbase (by rw [hs]; rfl) hline hs rfl).wk fun t H Q q => ?_
  obtain ⟨r, s, h, R, S, P⟩ := q
  refine ⟨r, s, h, R, S, P.bind (Rv := RA X.K) fun x h1 r1 H1 u1 e1 R1 v1 P1 => ?_⟩
  obtain ⟨hk, P1⟩ := P1.ite
  refine ⟨mget hk fun ys ey => ?_, ⟨r1, s, h1, R1, S.ext e1, P1.bind (Rv := RAs X.K) fun vs h2 r2 H2 u2 e2 R2 v2 P2 => ?_⟩⟩
  · obtain ⟨p, ws, q1, q2, q3⟩ := ra_list R1 v1 ey
    subst q1
    exact .inl ⟨rfl, ws, q2⟩
  · cases v2 with
    | nil => exact P2.elim
    | cons a b =>
      cases b with
      | cons _ _ => exact P2.elim
      | nil =>
        simp only [bmOp] at P2
        split at P2
        · rename_i ys ey
          split at P2
          · rename_i hf
            simp only [Bool.and_eq_true] at hf
            obtain ⟨p, ws, q1, q2, q3⟩ := ra_list R2 (v1.ext e2) ey
            obtain ⟨f1, f2⟩ := ra_flat a hf.1
            obtain ⟨f3, f4⟩ := ras_flat q3 hf.2
            split at P2
            · rename_i k ek
              obtain ⟨j, z, g1, g2, g3, g4⟩ := findV_spec _ _ _ ek
              have ej : k = j := by omega
              subst ej
              rw [← f3] at g2 g4
              rw [← f1] at g3 g4
              exact ⟨p, ws, _, k, z, q1, rfl, q2, f2, f4, g2, g3, g4, Post.here P2 R2 (.int _)⟩
            · exact P2.elim
          · exact P2.elim
        · exact P2.elim
theorem je_join {o e : Expr} {apos cpos : Pos} {mo : ASt → AH → R A} {ms : ASt → AH → R (List A)} (ho : PE X o (tM X.K T ca W mo)) (ha : PA X [e] (aM X.K T ca W ms)) (hbase : attributeBase o "join" X.env (eval o X.env) = eval o X.env) (hline : (apos.endLine == cpos.line) = true)
    (hs : starEach [e] X.env = (false, eval e X.env) :: starEach [] X.env) :
    PE X (.Call (.Attribute o "join" apos) [e] [] cpos) (tM X.K T ca W fun s h => (mo s h).bind fun x h1 => if recvOk .join x h1 then (ms s h1).bind fun vs h2 => bmOp .join x vs h2 else .bad) := by
  refine (pe_bm PySem.F.plainAttrs_str PySem.F.slot_str_join PySem.F.type_str_join mt_join ho ha hbase (by rw [hs]; rfl) hline hs rfl).wk fun t H Q q => ?_
  obtain ⟨r, s, h, R, S, P⟩ := q
  refine ⟨r, s, h, R, S, P.bind (Rv := RA X.K) fun x h1 r1 H1 u1 e1 R1 v1 P1 => ?_⟩
  obtain ⟨hk, P1⟩ := P1.ite
  cases v1 with
  | str z =>
    refine ⟨rfl, ⟨r1, s, h1, R1, S.ext e1, P1.bind (Rv := RAs X.K) fun vs h2 r2 H2 u2 e2 R2 v2 P2 => ?_⟩⟩
    cases v2 with
    | nil => exact P2.elim
    | cons a b =>
      cases b with
      | cons _ _ => exact P2.elim
      | nil =>
        simp only [bmOp] at P2
        split at P2
        · rename_i ys ey
          obtain ⟨p, ws, q1, q2, q3⟩ := ra_list R2 a ey
          split at P2
          · rename_i zs ez
            split at P2
            · rename_i hz
              have ew := ras_strs q3 ez
              subst ew q1
              exact ⟨z, p, zs, rfl, rfl, .inl q2, Nat.le_trans (of_decide_eq_true hz) (by decide), Post.here P2 R2 (.str _)⟩
            · exact P2.elim
          · exact P2.elim
        · exact P2.elim
  | _ => cases hk
def rGet2 : V → List V → Hp → VK → Prop := fun x xs H Q => ∃ a y z o, x = .ref a ∧ xs = [y, z] ∧ DGet H a y o ∧ Q (o.getD z) H
theorem mt_get2 (hu : X.A.units + 1 < cLine) : MtR X "dict.get" rGet2 := by
  intro pins s σ H x xs v us Q I rx rs q
  obtain ⟨a, y, z, o, e1, e2, g, q⟩ := q
  subst e1 e2
  cases rx
  obtain ⟨u, w', eu, r1, r2⟩ := vals2 rs
  subst eu
  exact d_get2 hu I g r1 r2 fun w' s' I' rw' => ⟨_, H, I', rw', q⟩
theorem je_get {o e f : Expr} {apos cpos : Pos} {mo : ASt → AH → R A} {ms : ASt → AH → R (List A)} (hu : X.A.units + 64 < cLine) (ho : PE X o (tM X.K T ca W mo)) (ha : PA X [e, f] (aM X.K T ca W ms)) (hbase : attributeBase o "get" X.env (eval o X.env) = eval o X.env) (hline : (apos.endLine == cpos.line) = true)
    (hs : starEach [e, f] X.env = (false, eval e X.env) :: starEach [f] X.env) (hs2 : starEach [f] X.env = [(false, eval f X.env)]) :
    PE X (.Call (.Attribute o "get" apos) [e, f] [] cpos) (tM X.K T ca W fun s h => (mo s h).bind fun x h1 => if recvOk .get x h1 then (ms s h1).bind fun vs h2 => bmOp .get x vs h2 else .bad) := by
  refine (pe_bm PySem.F.plainAttrs_dict PySem.F.slot_dict_get PySem.F.type_dict_get (mt_get2 (Nat.lt_of_le_of_lt (by omega) hu)) ho ha hbase (by rw [hs, hs2]; rfl) hline hs (by rw [hs2]; rfl)).wk fun t H Q q => ?_
  obtain ⟨r, s, h, R, S, P⟩ := q
  refine ⟨r, s, h, R, S, P.bind (Rv := RA X.K) fun x h1 r1 H1 u1 e1 R1 v1 P1 => ?_⟩
  obtain ⟨hk, P1⟩ := P1.ite
  cases v1 with
  | loc l hl =>
    refine ⟨?_, ⟨r1, s, h1, R1, S.ext e1, P1.bind (Rv := RAs X.K) fun vs h3 r3 H3 u3 e3 R3 v3 P3 => ?_⟩⟩
    · simp only [recvOk] at hk
      split at hk
      · rename_i kvs ek
        obtain ⟨ws, q, _⟩ := R1.obj l _ ek
        exact .inr (.inr (.inl ⟨rfl, .inl ⟨ws, q⟩⟩))
      · cases hk
    · simp only [bmOp, dicAt] at P3
      cases eo : h3[l]? with
      | none => rw [eo] at P3; exact P3.elim
      | some ob =>
        rw [eo] at P3
        cases ob with
        | dic lk kvs =>
          dsimp only at P3
          cases v3 with
          | nil => exact P3.elim
          | @cons y vy _ _ a b =>
            cases b with
            | nil => exact P3.elim
            | @cons z vz _ _ a2 b =>
              cases b with
              | cons _ _ => exact P3.elim
              | nil =>
                dsimp only at P3
                cases ek : keyA y with
                | none => rw [ek] at P3; exact P3.elim
                | some k =>
                  rw [ek] at P3
                  obtain ⟨ws, rd, rk⟩ := ra_dic R3 eo
                  have el : r3 l = r1 l := e3.same l hl
                  rw [el] at rd
                  have ey := ra_key a ek
                  subst ey
                  dsimp only at P3
                  rcases dget_of (k := k) rd rk with ⟨g1, g2⟩ | ⟨w, v', g1, g2, g3⟩
                  · rw [g1] at P3
                    exact ⟨r1 l, _, _, none, rfl, rfl, g2, Post.here P3 R3 a2⟩
                  · rw [g1] at P3
                    exact ⟨r1 l, _, _, some v', rfl, rfl, g2, Post.here P3 R3 g3⟩
        | _ => exact P3.elim
  | _ => cases hk
theorem rks_fld {K : PySem.W.Frag} {H : Hp} {r : Rho} {n : Nat} {f : Str} : ∀ {fs : List (Str × A)} {vs : List (Str × V)}, RKs K H r n fs vs →
    (fs.lookup f = none ∧ vs.lookup f = none) ∨ ∃ a v, fs.lookup f = some a ∧ vs.lookup f = some v ∧ RA K H r n a v := by
  intro fs vs h
  induction h with
  | nil => exact .inl ⟨rfl, rfl⟩
  | @cons k' x v xs vs a b ih =>
    by_cases e : f = k'
    · subst e
      exact .inr ⟨x, v, by simp [List.lookup], by simp [List.lookup], a⟩
    · have hb : (f == k') = false := by simp [e]
      simpa [List.lookup, hb] using ih
theorem rks_putF {K : PySem.W.Frag} {H : Hp} {r : Rho} {n : Nat} {f : Str} {a : A} {v : V} {fs : List (Str × A)} {vs : List (Str × V)} (h : RKs K H r n fs vs) (ra : RA K H r n a v) : RKs K H r n (putFA f a fs) (putF f v vs) := by
  induction h with
  | nil => exact .cons ra .nil
  | @cons k' x v xs vs a b ih =>
    unfold putFA putF
    by_cases e : k' = f
    · rw [if_pos e, if_pos e]
      subst e
      exact .cons ra b
    · rw [if_neg e, if_neg e]
      exact .cons a ih
/-- what is known of the program's classes -/
structure ClsOk (K : PySem.W.Frag) (ca : Str → Option Addr) (Pg : Prog) : Prop where
  cl : ∀ c ci, Pg.cls.lookup c = some ci → ∃ C, ca c = some C ∧ Cls K C
  at_ : ∀ c ci f C, Pg.cls.lookup c = some ci → ci.attrs.contains f = true → ca c = some C → NoAttr K C f
theorem je_fld {o : Expr} {f : Str} {pos : Pos} {mo : ASt → AH → R A} {Pg : Prog} (C : ClsOk X.K ca Pg) (ho : PE X o (tM X.K T ca W mo)) (hb : attributeBase o f X.env (eval o X.env) = eval o X.env) :
    PE X (.Attribute o f pos) (tM X.K T ca W fun s h => (mo s h).bind fun x h1 => match x with
      | .loc l => match h1[l]? with
        | some (.ins c fs) => match Pg.cls.lookup c with
          | some ci => if ci.attrs.contains f then R.of (fs.lookup f) h1 else .bad
          | none => .bad
        | _ => .bad
      | _ => .bad) := by
  refine (pe_fld ho hb).wk fun t H Q q => ?_
  obtain ⟨r, s, h, R, S, P⟩ := q
  refine ⟨r, s, h, R, S, P.bind (Rv := RA X.K) fun x h1 r1 H1 u1 e1 R1 v1 P1 => ?_⟩
  cases v1 with
  | loc l hl =>
    dsimp only at P1
    split at P1
    · rename_i c fs ef
      split at P1
      · rename_i ci ec
        obtain ⟨ha, P1⟩ := P1.ite
        obtain ⟨C', dx, vs, q1, q2, q3⟩ := R1.obj l _ ef
        obtain ⟨C2, g1, g2⟩ := C.cl c ci ec
        rw [q1] at g1
        cases g1
        rcases rks_fld (f := f) q3 with ⟨k1, k2⟩ | ⟨a, v, k1, k2, k3⟩
        · rw [k1] at P1; exact P1.elim
        · rw [k1] at P1
          exact ⟨r1 l, C', dx, vs, v, rfl, q2, g2, C.at_ c ci f C' ec ha q1, k2, Post.here P1 R1 k3⟩
      · exact P1.elim
    · exact P1.elim
  | _ => exact P1.elim
/-- a def's promise by the small language -/
def spM (K : PySem.W.Frag) (T : List (Addr × Str)) (ca : Str → Option Addr) (np : Nat) (m : List A → AH → R A) : Sp := fun vs H Q E =>
  ∃ (r : Rho) (h : AH) (as : List A), as.length = np ∧ Rel K T ca H r h ∧ RAs K H r h.length as vs ∧ Post K T ca (RA K) E H r h.length (m as h) Q
section
variable {k : Nat} {f : Addr} {fd : FuncData} {ps : List Str} {x : Str} {p pos apos : Pos} {e o : Expr} {es : List Expr} {m : List A → AH → R A} {ms : ASt → AH → R (List A)}
theorem make_ok {K : PySem.W.Frag} {E : XK} {H : Hp} {r : Rho} {h : AH} {vs : List A} {us : List V} {Q : VK} {m : List A → AH → R A} {ps : List Str} {c : Str} {C x dx : Addr} (R : Rel K T ca H r h) (rv : RAs K H r h.length vs us) (hm0 : ∀ as h, as.length ≠ ps.length → m as h = .bad) (hc : ca c = some C)
    (nx : H x = none) (ndx : H dx = none) (nex : dx ≠ x) (P : Post K T ca (RA K) E H r h.length ((m (.loc h.length :: vs) (h ++ [.ins c []])).bind fun v h2 => match v with | .non => .ok (.loc h.length) h2 | _ => .bad) Q) :
    spM K T ca ps.length m (.ref x :: us) (upd (upd H dx (.own x)) x (.ins C dx [])) (fun v H2 => v = .non ∧ Q (.ref x) H2) E := by
  have nx1 : upd H dx (.own x) x = none := by
    rw [upd_ne (Ne.symm nex)]
    exact nx
  have e1 : Ext H r h.length (upd H dx (.own x)) r h.length := Ext.new r _ ndx
  have R1 : Rel K T ca (upd H dx (.own x)) r h := R.new ndx
  have e2 : Ext (upd H dx (.own x)) r h.length (upd (upd H dx (.own x)) x (.ins C dx [])) (grow r h.length x) (h.length + 1) := Ext.grow nx1
  have R2 : Rel K T ca (upd (upd H dx (.own x)) x (.ins C dx [])) (grow r h.length x) (h ++ [.ins c []]) := R1.grow nx1 ⟨C, dx, [], hc, upd_same, .nil⟩
  have el : (h ++ [AO.ins c []]).length = h.length + 1 := by simp
  have e3 := e1.trans e2
  have lx : RA K (upd (upd H dx (.own x)) x (.ins C dx [])) (grow r h.length x) (h.length + 1) (.loc h.length) (.ref x) := by
    have z : RA K (upd (upd H dx (.own x)) x (.ins C dx [])) (grow r h.length x) (h.length + 1) (.loc h.length) (.ref (grow r h.length x h.length)) := .loc h.length (Nat.lt_succ_self _)
    rw [grow_at] at z
    exact z
  refine ⟨grow r h.length x, h ++ [.ins c []], .loc h.length :: vs, ?_, R2, ?_, ?_⟩
  · by_cases hl : (A.loc h.length :: vs).length = ps.length
    · exact hl
    · rw [hm0 _ _ hl] at P
      exact P.elim
  · rw [el]
    exact .cons lx (rv.ext e3)
  · rw [el]
    refine (Post.step e3 P).bind (Rv := RA K) fun v h2 r2 H2 u2 e4 Rl v2 P2 => ?_
    cases v2 with
    | non =>
      refine ⟨rfl, Post.here P2 Rl ?_⟩
      have z := lx.ext e4
      exact z
    | _ => exact P2.elim
theorem je_call (F : FnOk X.prog X.w X.K X.mg X.base (L2N.CX X.prog X.w) k f fd ps (spM X.K T ca ps.length m)) (hm0 : ∀ as h, as.length ≠ ps.length → m as h = .bad) (hr : Room k X.A) (tk : L2N.Takes X (cW E)) (hg : Gl X x) (hm : X.mg x = some (.ref f)) (hk : PySem.W.keepIn X.K (.ref f) = true)
    (hb : Binds X.K fd ps []) (ha : PA X (e :: es) (aM X.K T ca (cW E) ms)) (hdb : (x == ("__debug__" : Str)) = false) (he : starEach (e :: es) X.env = (false, eval e X.env) :: starEach es X.env) (hpl : (backTo pos (starEach es X.env)).any (·.1) = false) :
    PE X (.Call (.Name x p) (e :: es) [] pos) (tM X.K T ca (cW E) fun s h => (ms s h).bind fun vs h1 => m vs h1) := by
  refine (pe_call F hr hg hm hk hb .nil (L2N.passes_call tk fun _ _ _ _ h => h) ha hdb he hpl).wk fun t H Q q => ?_
  obtain ⟨r, s, h, R, S, P⟩ := q
  refine ⟨r, s, h, R, S, P.bind (Rv := RAs X.K) fun vs h1 r1 H1 u1 e1 R1 v1 P1 => ?_⟩
  rw [List.append_nil]
  refine ⟨r1, h1, vs, ?_, R1, v1, P1⟩
  by_cases hl : vs.length = ps.length
  · exact hl
  · rw [hm0 vs h1 hl] at P1
    exact P1.elim
theorem je_make {C : Addr} {c : Str} {ci : ClsI} {Pg : Prog} {g : Str} (M : Mk X.K C f) (F : FnOk X.prog X.w X.K X.mg X.base (L2N.CX X.prog X.w) k f fd ps (spM X.K T ca ps.length m)) (hm0 : ∀ as h, as.length ≠ ps.length → m as h = .bad) (hr : Room (k + 1) X.A) (tk : L2N.Takes X (cW E)) (hg : Gl X x) (hm : X.mg x = some (.ref C))
    (hc : ca c = some C) (hb : Binds X.K fd ps []) (ha : PA X (e :: es) (aM X.K T ca (cW E) ms)) (hdb : (x == ("__debug__" : Str)) = false) (he : starEach (e :: es) X.env = (false, eval e X.env) :: starEach es X.env) (hpl : (backTo pos (starEach es X.env)).any (·.1) = false) :
    PE X (.Call (.Name x p) (e :: es) [] pos) (tM X.K T ca (cW E) fun s h => (ms s h).bind fun vs h1 => (m (.loc h1.length :: vs) (h1 ++ [.ins c []])).bind fun v h2 => match v with | .non => .ok (.loc h1.length) h2 | _ => .bad) := by
  refine (pe_make M F hr hg hm hb .nil (L2N.passes_call tk fun _ _ _ _ h => h) ha hdb he hpl).wk fun t H Q q => ?_
  obtain ⟨r, s, h, R, S, P⟩ := q
  refine ⟨r, s, h, R, S, P.bind (Rv := RAs X.K) fun vs h1 r1 H1 u1 e1 R1 v1 P1 x dx nx ndx nex => ?_⟩
  rw [List.append_nil]
  exact make_ok R1 v1 hm0 hc nx ndx nex P1
theorem je_make0 {C : Addr} {c : Str} (M : Mk X.K C f) (F : FnOk X.prog X.w X.K X.mg X.base (L2N.CX X.prog X.w) k f fd ps (spM X.K T ca ps.length m)) (hm0 : ∀ as h, as.length ≠ ps.length → m as h = .bad) (hr : Room (k + 1) X.A) (tk : L2N.Takes X (cW E)) (hg : Gl X x) (hm : X.mg x = some (.ref C))
    (hc : ca c = some C) (hb : Binds X.K fd ps []) (hdb : (x == ("__debug__" : Str)) = false) :
    PE X (.Call (.Name x p) [] [] pos) (tM X.K T ca (cW E) fun s h => MI.R.bind (.ok [] h) fun vs h1 => (m (.loc h1.length :: vs) (h1 ++ [.ins c []])).bind fun v h2 => match v with | .non => .ok (.loc h1.length) h2 | _ => .bad) := by
  refine (pe_make0 M F hr hg hm hb .nil (L2N.passes_call tk fun _ _ _ _ h => h) hdb).wk fun t H Q q => ?_
  obtain ⟨r, s, h, R, S, P⟩ := q
  exact fun x dx nx ndx nex => make_ok R .nil hm0 hc nx ndx nex P
/-- o.m(..), by the class that the receiver has -/
theorem je_meth {pl : Sem Bool} {mn : Str} {Pg : Prog} {mo : ASt → AH → R A} {cf : Str → List A → AH → R A} (ho : PE X o (tM X.K T ca (cW E) mo))
    (C : ∀ c ci g, Pg.cls.lookup c = some ci → ci.meths.lookup mn = some g → ∃ C f fd ps, ca c = some C ∧ Cls X.K C ∧ Meth X.K C mn f ∧ FnOk X.prog X.w X.K X.mg X.base (L2N.CX X.prog X.w) k f fd ps (spM X.K T ca ps.length (cf g)) ∧ (∀ as h, as.length ≠ ps.length → cf g as h = .bad) ∧ Binds X.K fd ps [])
    (hr : Room k X.A) (tk : L2N.Takes X (cW E)) (ha : PA X (e :: es) (aM X.K T ca (cW E) ms)) (hst : starEach (e :: es) X.env = (false, eval e X.env) :: starEach es X.env) (hpl : (backTo pos (starEach es X.env)).any (·.1) = false)
    (ht : eval (.Call (.Attribute o mn apos) (e :: es) [] pos) X.env = (do
      let ov ← eval o X.env
      standAt apos.atName
      let (f, first) ← holding [ov] (getMethod ov mn pl)
      callWith pos f first (backTo pos (starEach (e :: es) X.env)) (backToKw pos (keywordEach [] X.env)))) :
    PE X (.Call (.Attribute o mn apos) (e :: es) [] pos) (tM X.K T ca (cW E) fun s h => (mo s h).bind fun x h1 => match x with
      | .loc l => match h1[l]? with
        | some (.ins c fs) => match Pg.cls.lookup c with
          | some ci => match ci.meths.lookup mn, fs.lookup mn with
            | some g, none => (ms s h1).bind fun vs h2 => cf g (.loc l :: vs) h2
            | _, _ => .bad
          | none => .bad
        | _ => .bad
      | _ => .bad) := by
  refine ⟨fun pins s σ H Q I q => ?_⟩
  obtain ⟨r, st, h, R, S, P⟩ := q
  refine methcall_of (pl := pl) ho I ⟨r, st, h, R, S, P.bind (Rv := RA X.K) fun x h1 r1 H1 u1 e1 R1 v1 P1 => ?_⟩ ht
  cases v1 with
  | loc l hl =>
    dsimp only at P1
    split at P1
    · rename_i c fs ef
      split at P1
      · rename_i ci ec
        split at P1
        · rename_i g eg en
          obtain ⟨C', dx, vs, q1, q2, q3⟩ := R1.obj l _ ef
          obtain ⟨C2, f, fd, ps, g1, g2, g3, g4, g5, g6⟩ := C c ci g ec eg
          rw [q1] at g1
          cases g1
          rcases rks_fld (f := mn) q3 with ⟨k1, k2⟩ | ⟨a, v, k1, k2, k3⟩
          · refine ⟨r1 l, C', dx, vs, f, rfl, q2, g2, g3, k2, fun s1 I1 => ?_⟩
            refine PySem.W.callWith_K (first := [.ref (r1 l)]) (h₀ := X.base) I.ok.mod.kin g3.kp (thn (ha.run pos pins s1 σ H1 (fun us H2 => spM X.K T ca ps.length (cf g) (.ref (r1 l) :: us) H2 Q E) I1 ⟨r1, st, h1, R1, S.ext e1, P1.bind (Rv := RAs X.K) fun ws h2 r2 H2 u2 e2 R2 v2 P2 => ?_⟩) fun us s2 ⟨zs, H2, I2, rr, q2⟩ => ⟨I2.kIn, ?_⟩) hst hpl
            · refine ⟨r2, h2, .loc l :: ws, ?_, R2, .cons ?_ v2, P2⟩
              · by_cases hl : (A.loc l :: ws).length = ps.length
                · exact hl
                · rw [g5 _ _ hl] at P2
                  exact P2.elim
              · rw [← e2.same l hl]
                exact .loc l (Nat.lt_of_lt_of_le hl e2.le)
            · exact run_fn (us := .ref (r1 l) :: us) (vs := .ref (r1 l) :: zs) g4 hr g6 .nil (L2N.passes_call tk fun _ _ _ _ h => h) I2 (.cons rfl rr) (by rw [List.append_nil]; exact q2)
          · rw [k1] at en
            cases en
        · exact P1.elim
      · exact P1.elim
    · exact P1.elim
  | _ => exact P1.elim
/-- o.m() -/
theorem je_meth0 {pl : Sem Bool} {mn : Str} {Pg : Prog} {mo : ASt → AH → R A} {cf : Str → List A → AH → R A} (ho : PE X o (tM X.K T ca (cW E) mo))
    (C : ∀ c ci g, Pg.cls.lookup c = some ci → ci.meths.lookup mn = some g → ∃ C f fd ps, ca c = some C ∧ Cls X.K C ∧ Meth X.K C mn f ∧ FnOk X.prog X.w X.K X.mg X.base (L2N.CX X.prog X.w) k f fd ps (spM X.K T ca ps.length (cf g)) ∧ (∀ as h, as.length ≠ ps.length → cf g as h = .bad) ∧ Binds X.K fd ps [])
    (hr : Room k X.A) (tk : L2N.Takes X (cW E))
    (ht : eval (.Call (.Attribute o mn apos) [] [] pos) X.env = (do
      let ov ← eval o X.env
      standAt apos.atName
      let (f, first) ← holding [ov] (getMethod ov mn pl)
      callWith pos f first (backTo pos (starEach [] X.env)) (backToKw pos (keywordEach [] X.env)))) :
    PE X (.Call (.Attribute o mn apos) [] [] pos) (tM X.K T ca (cW E) fun s h => (mo s h).bind fun x h1 => match x with
      | .loc l => match h1[l]? with
        | some (.ins c fs) => match Pg.cls.lookup c with
          | some ci => match ci.meths.lookup mn, fs.lookup mn with
            | some g, none => MI.R.bind (.ok [] h1) fun vs h2 => cf g (.loc l :: vs) h2
            | _, _ => .bad
          | none => .bad
        | _ => .bad
      | _ => .bad) := by
  refine ⟨fun pins s σ H Q I q => ?_⟩
  obtain ⟨r, st, h, R, S, P⟩ := q
  refine methcall_of (pl := pl) ho I ⟨r, st, h, R, S, P.bind (Rv := RA X.K) fun x h1 r1 H1 u1 e1 R1 v1 P1 => ?_⟩ ht
  cases v1 with
  | loc l hl =>
    dsimp only at P1
    split at P1
    · rename_i c fs ef
      split at P1
      · rename_i ci ec
        split at P1
        · rename_i g eg en
          obtain ⟨C', dx, vs, q1, q2, q3⟩ := R1.obj l _ ef
          obtain ⟨C2, f, fd, ps, g1, g2, g3, g4, g5, g6⟩ := C c ci g ec eg
          rw [q1] at g1
          cases g1
          rcases rks_fld (f := mn) q3 with ⟨k1, k2⟩ | ⟨a, v, k1, k2, k3⟩
          · refine ⟨r1 l, C', dx, vs, f, rfl, q2, g2, g3, k2, fun s1 I1 => ?_⟩
            have P1 : Post X.K T ca (RA X.K) _ H1 r1 h1.length (cf g [.loc l] h1) Q := P1
            refine PySem.W.callWith_K0 (first := [.ref (r1 l)]) I1.kIn g3.kp (run_fn (us := [.ref (r1 l)]) (vs := [.ref (r1 l)]) g4 hr g6 .nil (L2N.passes_call tk fun _ _ _ _ h => h) I1 (.cons rfl .nil) ?_)
            rw [List.append_nil]
            refine ⟨r1, h1, [.loc l], ?_, R1, .cons (.loc l hl) .nil, P1⟩
            by_cases hl : [A.loc l].length = ps.length
            · exact hl
            · rw [g5 _ _ hl] at P1
              exact P1.elim
          · rw [k1] at en
            cases en
        · exact P1.elim
      · exact P1.elim
    · exact P1.elim
  | _ => exact P1.elim
end
end
end MI

namespace MI
open PySem PyProof.Rows L2
section
variable (K : PySem.W.Frag) (T : List (Addr × Str)) (ca : Str → Option Addr)
/-- a walk of the small language and one of the layer; Hs: the part of the heap that the small language sees -/
def RIt (H0 : Hp) (r0 : Rho) (n0 : Nat) (j : MI.It) (J : L2.It) : Prop := ∀ (H Hs : Hp) (r : Rho) (h : AH) (i : Nat), Ext H0 r0 n0 Hs r h.length → Rel K T ca Hs r h → (∀ a o, Hs a = some o → H a = some o) →
  (j.nx i h = some none → J.stop i H) ∧ ∀ x, j.nx i h = some (some x) → J.go i H ∧ ∀ v H', J.yld i H v H' → ∃ Hs', Ext Hs r h.length Hs' r h.length ∧ Rel K T ca Hs' r h ∧ RA K Hs' r h.length x v ∧
    ((H' = H ∧ Hs' = Hs) ∨ ∃ q o, H q = none ∧ H' = upd H q o ∧ Hs' = upd Hs q o)
def iM (W : WX) (m : ASt → AH → R MI.It) : TI := fun t H Q => ∃ (r : Rho) (s : ASt) (h : AH), Rel K T ca H r h ∧ RSt K H r h.length s t ∧ Post K T ca (RIt K T ca) (fun c d H' => W c d t H') H r h.length (m s h) Q
def gM (W : WX) (m : A → ASt → AH → R ASt) : TG := fun v t H Q => ∃ (r : Rho) (s : ASt) (h : AH) (a : A), Rel K T ca H r h ∧ RSt K H r h.length s t ∧ RA K H r h.length a v ∧ Post K T ca (RSt K) (fun c d H' => W c d t H') H r h.length (m a s h) Q
def gsM (W : WX) (m : List A → ASt → AH → R ASt) : TGs := fun vs t H Q => ∃ (r : Rho) (s : ASt) (h : AH) (as : List A), Rel K T ca H r h ∧ RSt K H r h.length s t ∧ RAs K H r h.length as vs ∧ Post K T ca (RSt K) (fun c d H' => W c d t H') H r h.length (m as s h) Q
end
theorem PI.wk {X : Cx} {tg e : Expr} {w w' : TI} (h : PI X tg e w) (k : ∀ s H Q, w' s H Q → w s H Q) : PI X tg e w' := ⟨fun pins s σ H R I q => h.run pins s σ H R I (k σ H R q)⟩
theorem PI.or {X : Cx} {tg e : Expr} {w w' : TI} (h : PI X tg e w) (h' : PI X tg e w') : PI X tg e (fun s H Q => w s H Q ∨ w' s H Q) := ⟨fun pins s σ H R I q => q.elim (h.run pins s σ H R I) (h'.run pins s σ H R I)⟩
theorem PG.wk {X : Cx} {e : Expr} {w w' : TG} (h : PG X e w) (k : ∀ v s H Q, w' v s H Q → w v s H Q) : PG X e w' := ⟨fun pins s σ H v u Q I r q => h.run pins s σ H v u Q I r (k v σ H Q q)⟩
theorem PGs.wk {X : Cx} {e : List Expr} {w w' : TGs} (h : PGs X e w) (k : ∀ v s H Q, w' v s H Q → w v s H Q) : PGs X e w' := ⟨fun pins s σ H v u Q I r q => h.run pins s σ H v u Q I r (k v σ H Q q)⟩
section
variable {X : Cx} {T : List (Addr × Str)} {ca : Str → Option Addr} {W : WX} {E : XK} {tg : Expr}
theorem _root_.L2.SqL.up {K : PySem.W.Frag} {H Hs : Hp} {a : Addr} {xs : List V} (u : ∀ a o, Hs a = some o → H a = some o) (h : SqL K Hs a xs) : SqL K H a xs := by
  rcases h with (h | ⟨o, h⟩) | h
  · exact .inl (.inl (u _ _ h))
  · exact .inl (.inr ⟨o, u _ _ h⟩)
  · exact .inr h
theorem _root_.L2.SqT.up {K : PySem.W.Frag} {H Hs : Hp} {a : Addr} {xs : List V} (u : ∀ a o, Hs a = some o → H a = some o) (h : SqT K Hs a xs) : SqT K H a xs := by
  rcases h with (h | ⟨o, h⟩) | h
  · exact .inl (.inl (u _ _ h))
  · exact .inl (.inr ⟨o, u _ _ h⟩)
  · exact .inr h
theorem up_none {H Hs : Hp} {a : Addr} (u : ∀ a o, Hs a = some o → H a = some o) (h : H a = none) : Hs a = none := by
  cases e : Hs a with
  | none => rfl
  | some o =>
    rw [u _ _ e] at h
    cases h
theorem sql_inj {K : PySem.W.Frag} {H : Hp} {a : Addr} {xs ys : List V} (h : SqL K H a xs) (g : ∀ zs, SqL K H a zs → zs = xs) (k : SqL K H a ys) : ys = xs := g ys k
/-- a list of the small language is walked as the layer's -/
theorem rit_list {K : PySem.W.Frag} {H0 : Hp} {r0 : Rho} {n0 : Nat} {a : A} {p : Addr} {m : Nat} (ra : RA K H0 r0 n0 a (.ref p)) : RIt K T ca H0 r0 n0 ⟨fun i h => nthA h a i, m, none⟩ (Itl K p) := by
  intro H Hs r h i e R up
  have ra' := ra.ext e
  cases el : listAt h a with
  | none =>
    refine ⟨fun z => ?_, fun x z => ?_⟩
    · simp only [nthA] at z
      rw [el] at z
      cases z
    · simp only [nthA] at z
      rw [el] at z
      cases z
  | some xs =>
    obtain ⟨p', vs, e1, e2, e3⟩ := ra_list R ra' el
    cases e1
    refine ⟨fun z => ?_, fun x z => ?_⟩
    · simp only [nthA] at z
      rw [el] at z
      have z := Option.some.inj z
      have := e3.getN z
      exact ⟨vs, e2.up up, by rw [List.getElem?_eq_none_iff] at this; exact this⟩
    · simp only [nthA] at z
      rw [el] at z
      have z := Option.some.inj z
      obtain ⟨v, h1, h2⟩ := e3.get z
      refine ⟨⟨vs, v, e2.up up, h1⟩, fun u H' y => ?_⟩
      obtain ⟨y1, y2⟩ := y
      subst y1
      have := y2 vs (e2.up up)
      rw [h1] at this
      cases this
      exact ⟨Hs, Ext.refl _ _ _, R, h2, .inl ⟨rfl, rfl⟩⟩
theorem rit_tup {K : PySem.W.Frag} {H0 : Hp} {r0 : Rho} {n0 : Nat} {xs : List A} {p : Addr} {m : Nat} (ra : RA K H0 r0 n0 (.tup xs) (.ref p)) : RIt K T ca H0 r0 n0 ⟨fun i _ => some xs[i]?, m, none⟩ (Itt K p) := by
  intro H Hs r h i e R up
  obtain ⟨p', vs, e1, e2, e3⟩ := ra_tup (ra.ext e)
  cases e1
  refine ⟨fun z => ?_, fun x z => ?_⟩
  · have z := Option.some.inj z
    have := e3.getN z
    exact ⟨vs, e2.up up, by rw [List.getElem?_eq_none_iff] at this; exact this⟩
  · have z := Option.some.inj z
    obtain ⟨v, h1, h2⟩ := e3.get z
    refine ⟨⟨vs, v, e2.up up, h1⟩, fun u H' y => ?_⟩
    obtain ⟨y1, y2⟩ := y
    subst y1
    have := y2 vs (e2.up up)
    rw [h1] at this
    cases this
    exact ⟨Hs, Ext.refl _ _ _, R, h2, .inl ⟨rfl, rfl⟩⟩
theorem rit_str {K : PySem.W.Frag} {H0 : Hp} {r0 : Rho} {n0 : Nat} {z : Str} {m : Nat} : RIt K T ca H0 r0 n0 ⟨fun i _ => some ((z.cps.toList[i]?).map fun c => .str ⟨#[c]⟩), m, none⟩ (Its z) := by
  intro H Hs r h i e R up
  refine ⟨fun q => ?_, fun x q => ?_⟩
  · have q := Option.some.inj q
    rw [Option.map_eq_none_iff, List.getElem?_eq_none_iff, Array.length_toList] at q
    exact q
  · have q := Option.some.inj q
    rw [Option.map_eq_some_iff] at q
    obtain ⟨c, h1, h2⟩ := q
    have hi : i < z.cps.toList.length := (List.getElem?_eq_some_iff.mp h1).1
    rw [Array.length_toList] at hi
    refine ⟨hi, fun u H' y => ?_⟩
    obtain ⟨y1, c', y2, y3⟩ := y
    subst y1 y3
    have h1' : z.cps[i]? = some c := by simpa using h1
    rw [h1'] at y2
    cases y2
    subst h2
    exact ⟨Hs, Ext.refl _ _ _, R, .str _, .inl ⟨rfl, rfl⟩⟩
theorem rit_rng {K : PySem.W.Frag} {H0 : Hp} {r0 : Rho} {n0 : Nat} {lo : Int} {n m : Nat} : RIt K T ca H0 r0 n0 ⟨fun i _ => some (if i < n then some (.int (lo + i)) else none), m, none⟩ (Itr lo n) := by
  intro H Hs r h i e R up
  refine ⟨fun q => ?_, fun x q => ?_⟩
  · have q := Option.some.inj q
    split at q
    · cases q
    · rename_i hi
      exact Nat.not_lt.mp hi
  · have q := Option.some.inj q
    split at q
    · rename_i hi
      cases q
      refine ⟨hi, fun u H' y => ?_⟩
      obtain ⟨y1, y2⟩ := y
      subst y1 y2
      exact ⟨Hs, Ext.refl _ _ _, R, .int _, .inl ⟨rfl, rfl⟩⟩
    · cases q
/-- for k in d: the dict is locked from here on -/
def iKeysL (td : TE) : TI := fun σ H R => td σ H fun x H1 => ∃ d kvs, x = .ref d ∧ H1 d = some (.dK kvs) ∧ ∀ od, R (Itk d od kvs) (upd H1 d (.frz od (.dK kvs)))
theorem pi_keysL {e : Expr} {td : TE} (he : PE X e td) : PI X tg e (iKeysL td) := by
  refine ⟨fun pins s σ H R I h => ?_⟩
  refine thn (he.run pins s σ H _ I h) fun u s1 ⟨x, H1, I1, rx, d, kvs, ex, hd, q⟩ => ?_
  subst ex
  obtain rfl : u = Value.ref d := rx
  obtain ⟨od, I2⟩ := I1.lock hd True.intro
  have hd2 : upd H1 d (.frz od (.dK kvs)) d = some (.frz od (.dK kvs)) := upd_same
  obtain ⟨hs, hgd, hx, es, ep, vs, hdt, hsz, kv, hm⟩ := I2.frzK hd2
  refine iter_keys hs hgd hx hdt (pi_one (tk := s1.toks) I2 _ (turn_keys _ hdt) ⟨_, Heap.get?_push_size _ rfl, rfl, ?_⟩ (q od))
  rw [hsz] <;> rfl
theorem rks_get {κ : Type} {K : PySem.W.Frag} {H : Hp} {r : Rho} {n : Nat} {xs : List (κ × A)} {vs : List (κ × V)} (h : RKs K H r n xs vs) {i : Nat} {k : κ} {a : A} (e : xs[i]? = some (k, a)) : ∃ v, vs[i]? = some (k, v) ∧ RA K H r n a v := by
  induction h generalizing i with
  | nil => simp at e
  | cons a b ih =>
    cases i with
    | zero => simp at e; obtain ⟨e1, e2⟩ := e; subst e1 e2; exact ⟨_, by simp, a⟩
    | succ i => simpa using ih (by simpa using e)
theorem rks_len' {κ : Type} {K : PySem.W.Frag} {H : Hp} {r : Rho} {n : Nat} {xs : List (κ × A)} {vs : List (κ × V)} (h : RKs K H r n xs vs) : xs.length = vs.length := by
  induction h with
  | nil => rfl
  | cons a b ih => simp [ih]
theorem ra_kV {K : PySem.W.Frag} {H : Hp} {r : Rho} {n : Nat} (k : Key) : RA K H r n (keyV k) (kV k) := by
  cases k with
  | inl i => exact .int i
  | inr z => exact .str z
theorem rit_keys {K : PySem.W.Frag} {H0 : Hp} {r0 : Rho} {n0 : Nat} {l m : Nat} {o : Obj} {vs : List (Key × V)} {lk : Option Nat} (hl : l < n0) (hf : H0 (r0 l) = some (.frz o (.dK vs))) : RIt K T ca H0 r0 n0 ⟨fun i h => keyAt h l i, m, lk⟩ (Itk (r0 l) o vs) := by
  intro H Hs r h i e R up
  have f1 := e.frz _ _ _ hf
  have el := e.same l hl
  have key : ∀ z, keyAt h l i = some z → ∃ kvs, h[l]? = some (.dic true kvs) ∧ z = kvs[i]?.map (fun p => keyV p.1) ∧ RKs K Hs r h.length kvs vs := fun z hz => by
    unfold keyAt at hz
    split at hz
    · rename_i kvs ek
      obtain ⟨o', vs', q, rk⟩ := R.obj l _ ek
      rw [el, f1] at q
      cases q
      exact ⟨kvs, ek, (Option.some.inj hz).symm, rk⟩
    · cases hz
  refine ⟨fun z => ?_, fun x z => ?_⟩
  · obtain ⟨kvs, e1, e2, rk⟩ := key _ z
    have e2 := e2.symm
    rw [Option.map_eq_none_iff, List.getElem?_eq_none_iff, rks_len' rk] at e2
    exact ⟨up _ _ f1, e2⟩
  · obtain ⟨kvs, e1, e2, rk⟩ := key _ z
    have e2 := e2.symm
    rw [Option.map_eq_some_iff] at e2
    obtain ⟨⟨k, a⟩, g1, g2⟩ := e2
    obtain ⟨v, k1, k2⟩ := rks_get rk g1
    refine ⟨⟨up _ _ f1, (List.getElem?_eq_some_iff.mp k1).1⟩, fun u H' y => ?_⟩
    obtain ⟨y1, k', v', y2, y3⟩ := y
    rw [k1] at y2
    cases y2
    subst y1 y3 g2
    exact ⟨Hs, Ext.refl _ _ _, R, ra_kV k, .inl ⟨rfl, rfl⟩⟩
theorem ji_seq {e : Expr} {m : ASt → AH → R A} (he : PE X e (tM X.K T ca W m)) : PI X tg e (iM X.K T ca W fun s h => (m s h).bind fun x h1 => R.of (itA x h1) (lockH x h1)) := by
  refine PI.wk (PI.or (pi_list he) (PI.or (pi_tup he) (PI.or (pi_str he) (PI.or (pi_keysL he) (pi_keys he))))) fun t H Q q => ?_
  obtain ⟨r, s, h, R, S, P⟩ := q
  have P : Post X.K T ca (RIt X.K T ca) _ H r h.length ((m s h).bind fun x h1 => MI.R.of (itA x h1) (lockH x h1)) Q := P
  cases em : m s h with
  | bad => rw [em] at P; exact P.elim
  | exc c h1 => rw [em] at P; exact .inl ⟨r, s, h, R, S, by rw [em]; exact P⟩
  | ok x h1 =>
    rw [em] at P
    have P : Post X.K T ca (RIt X.K T ca) _ H r h.length (MI.R.of (itA x h1) (lockH x h1)) Q := P
    cases x with
    | tup xs =>
      refine .inr (.inl ⟨r, s, h, R, S, ?_⟩)
      rw [em]
      intro r' H' u e R' ra
      obtain ⟨p, vs, e1, e2, e3⟩ := ra_tup ra
      subst e1
      exact ⟨p, rfl, ⟨vs, e2⟩, P r' H' _ e R' (rit_tup ra)⟩
    | lst xs =>
      refine .inl ⟨r, s, h, R, S, ?_⟩
      rw [em]
      intro r' H' u e R' ra
      obtain ⟨p, vs, e1, e2, e3⟩ := ra_list R' ra rfl
      subst e1
      refine ⟨p, rfl, ⟨vs, e2⟩, P r' H' _ e R' ?_⟩
      exact rit_list (m := xs.length + 1) ra
    | str z =>
      refine .inr (.inr (.inl ⟨r, s, h, R, S, ?_⟩))
      rw [em]
      intro r' H' u e R' ra
      cases ra
      simp only [itA] at P
      split at P
      · exact ⟨z, rfl, P r' H' _ e R' rit_str⟩
      · exact P.elim
    | loc l =>
      simp only [itA] at P
      split at P
      · rename_i xs ex
        refine .inl ⟨r, s, h, R, S, ?_⟩
        rw [em]
        intro r' H' u e R' ra
        obtain ⟨p, vs, e1, e2, e3⟩ := ra_list (xs := xs) R' ra (by simp only [listAt]; rw [ex])
        subst e1
        have eh : lockH (.loc l) h1 = h1 := by simp only [lockH, ex]
        rw [eh] at P
        refine ⟨p, rfl, ⟨vs, e2⟩, P r' H' _ e R' ?_⟩
        exact rit_list (m := xs.length + 1) ra
      · rename_i kvs ex
        refine .inr (.inr (.inr (.inl ⟨r, s, h, R, S, ?_⟩)))
        rw [em]
        intro r' H' u e R' ra
        cases ra with
        | loc _ hl =>
          obtain ⟨vs, q, rk⟩ := R'.obj l _ ex
          have eh : lockH (.loc l) h1 = h1.set l (.dic true kvs) := by simp only [lockH, ex]
          rw [eh] at P
          refine ⟨r' l, vs, rfl, q, fun od => ?_⟩
          have ep : Ext H' r' h1.length (upd H' (r' l) (.frz od (.dK vs))) r' h1.length := Ext.put hl q
          refine P r' _ _ (by rw [List.length_set]; exact e.trans ep) (R'.put hl ⟨od, vs, upd_same, rk.ext ep⟩) ?_
          rw [List.length_set]
          exact rit_keys hl upd_same
      · rename_i kvs ex
        refine .inr (.inr (.inr (.inr ⟨r, s, h, R, S, ?_⟩)))
        rw [em]
        intro r' H' u e R' ra
        cases ra with
        | loc _ hl =>
          obtain ⟨o, vs, q, rk⟩ := R'.obj l _ ex
          have eh : lockH (.loc l) h1 = h1 := by simp only [lockH, ex]
          rw [eh] at P
          exact ⟨r' l, o, rfl, .inl ⟨vs, q, P r' H' _ e R' (rit_keys hl q)⟩⟩
      · exact P.elim
    | _ => exact P.elim
theorem ji_rng1 {a : Expr} {p pos : Pos} {m : ASt → AH → R A} (hg : Gl X "range") (hm : X.mg "range" = none) (ha : PE X a (tM X.K T ca W m)) (hs : starEach [a] X.env = [(false, eval a X.env)]) :
    PI X tg (.Call (.Name "range" p) [a] [] pos) (iM X.K T ca W fun s h => (m s h).bind fun x h1 => match x with | .int j => R.of (rngA 0 j) h1 | _ => .bad) := by
  refine PI.wk (pi_range1 hg hm (pa_cons ha pa_nil hs) hs) fun t H Q q => ?_
  obtain ⟨r, s, h, R, S, P⟩ := q
  refine ⟨r, s, h, R, S, P.bind (Rv := RA X.K) fun x h1 r1 H1 u1 e1 R1 v1 P1 => ?_⟩
  cases v1 with
  | int j =>
    dsimp only [rngA] at P1
    split at P1
    · rename_i hz
      simp only [Bool.and_eq_true, decide_eq_true_eq] at hz
      refine ⟨j, rfl, by omega, by omega, ?_⟩
      have z := P1 r1 H1 (Itr 0 j.toNat) (Ext.refl _ _ _) R1
      have ej : (j - 0).toNat = j.toNat := by rw [Int.sub_zero]
      refine z ?_
      rw [ej]
      exact rit_rng
    · exact P1.elim
  | _ => exact P1.elim
theorem ji_rng2 {a b : Expr} {p pos : Pos} {m mb : ASt → AH → R A} (hg : Gl X "range") (hm : X.mg "range" = none) (ha : PE X a (tM X.K T ca W m)) (hb : PE X b (tM X.K T ca W mb)) (hs : starEach [a, b] X.env = [(false, eval a X.env), (false, eval b X.env)]) (hs2 : starEach [b] X.env = [(false, eval b X.env)]) :
    PI X tg (.Call (.Name "range" p) [a, b] [] pos) (iM X.K T ca W fun s h => (m s h).bind fun x h1 => (mb s h1).bind fun y h2 => match x, y with | .int i, .int j => R.of (rngA i j) h2 | _, _ => .bad) := by
  refine PI.wk (pi_range2 hg hm (pa_cons ha (pa_cons hb pa_nil hs2) (by rw [hs, hs2])) hs hs2) fun t H Q q => ?_
  obtain ⟨r, s, h, R, S, P⟩ := q
  refine ⟨r, s, h, R, S, P.bind (Rv := RA X.K) fun x h1 r1 H1 u1 e1 R1 v1 P1 => ⟨r1, s, h1, R1, S.ext e1, P1.bind (Rv := RA X.K) fun y h2 r2 H2 u2 e2 R2 v2 P2 => ?_⟩⟩
  cases v1 with
  | int i =>
    cases v2 with
    | int j =>
      dsimp only [rngA] at P2
      split at P2
      · rename_i hz
        simp only [Bool.and_eq_true, decide_eq_true_eq] at hz
        exact ⟨i, j, rfl, ⟨by omega, by omega, by omega, by omega⟩, P2 r2 H2 (Itr i (j - i).toNat) (Ext.refl _ _ _) R2 rit_rng⟩
      · exact P2.elim
    | _ => exact P2.elim
  | _ => cases v2 <;> exact P2.elim
theorem pair_new {K : PySem.W.Frag} {H : Hp} {r : Rho} {h : AH} {q : Addr} {x y : A} {v w : V} (R : Rel K T ca H r h) (hq : H q = none) (rx : RA K H r h.length x v) (ry : RA K H r h.length y w) :
    Ext H r h.length (upd H q (.tup [v, w])) r h.length ∧ Rel K T ca (upd H q (.tup [v, w])) r h ∧ RA K (upd H q (.tup [v, w])) r h.length (.tup [x, y]) (.ref q) := by
  have e : Ext H r h.length (upd H q (.tup [v, w])) r h.length := Ext.new r _ hq
  exact ⟨e, R.new hq, .tup (off_new R hq) (.cons (rx.ext e) (.cons (ry.ext e) .nil))⟩
theorem ji_enu {e : Expr} {p pos tpos : Pos} {elts : List Expr} {kk : Nat} {m : ASt → AH → R A} (hg : Gl X "enumerate") (hm : X.mg "enumerate" = none) (he : PE X e (tM X.K T ca W m)) (hs : starEach [e] X.env = [(false, eval e X.env)]) :
    PI X (.Tuple elts kk tpos) (.Call (.Name "enumerate" p) [e] [] pos) (iM X.K T ca W fun s h => (m s h).bind fun x h1 => match listAt h1 x with | some xs => .ok (enuA x xs.length) h1 | none => .bad) := by
  refine PI.wk (pi_enum hg hm (pa_cons he pa_nil hs) hs) fun t H Q q => ?_
  obtain ⟨r, s, h, R, S, P⟩ := q
  refine ⟨r, s, h, R, S, P.bind (Rv := RA X.K) fun x h1 r1 H1 u1 e1 R1 v1 P1 => ?_⟩
  cases el : listAt h1 x with
  | none => rw [el] at P1; exact P1.elim
  | some xs =>
    rw [el] at P1
    obtain ⟨p, vs, q1, q2, q3⟩ := ra_list R1 v1 el
    subst q1
    refine ⟨p, vs, rfl, q2, P1 r1 H1 _ (Ext.refl _ _ _) R1 ?_⟩
    intro H Hs r h i e R up
    have v1' := v1.ext e
    cases el2 : listAt h x with
    | none =>
      refine ⟨fun z => ?_, fun y z => ?_⟩
      · simp only [enuA] at z
        rw [el2] at z
        cases z
      · simp only [enuA] at z
        rw [el2] at z
        cases z
    | some ys =>
      obtain ⟨p', ws, g1, g2, g3⟩ := ra_list R v1' el2
      cases g1
      refine ⟨fun z => ?_, fun y z => ?_⟩
      · simp only [enuA] at z
        rw [el2] at z
        have z := Option.some.inj z
        rw [Option.map_eq_none_iff] at z
        have := g3.getN z
        exact ⟨ws, g2.up up, by rw [List.getElem?_eq_none_iff] at this; exact this⟩
      · simp only [enuA] at z
        rw [el2] at z
        have z := Option.some.inj z
        rw [Option.map_eq_some_iff] at z
        obtain ⟨y', z1, z2⟩ := z
        subst z2
        obtain ⟨v, k1, k2⟩ := g3.get z1
        refine ⟨⟨ws, v, g2.up up, k1⟩, fun u H' yy => ?_⟩
        obtain ⟨T', x', y1, y2, y3, y4⟩ := yy
        have := y4 ws (g2.up up)
        rw [k1] at this
        cases this
        subst y1 y3
        obtain ⟨p1, p2, p3⟩ := pair_new R (up_none up y2) (.int _) k2
        exact ⟨_, p1, p2, p3, .inr ⟨_, _, y2, rfl, rfl⟩⟩
theorem ji_zip {a b : Expr} {p pos tpos : Pos} {elts : List Expr} {kk : Nat} {m mb : ASt → AH → R A} (hg : Gl X "zip") (hm : X.mg "zip" = none) (ha : PE X a (tM X.K T ca W m)) (hb : PE X b (tM X.K T ca W mb)) (hs : starEach [a, b] X.env = (false, eval a X.env) :: starEach [b] X.env) (hs2 : starEach [b] X.env = [(false, eval b X.env)]) :
    PI X (.Tuple elts kk tpos) (.Call (.Name "zip" p) [a, b] [] pos) (iM X.K T ca W fun s h => (m s h).bind fun x h1 => (mb s h1).bind fun y h2 => match x, y with
      | .tup xs, .tup ys => .ok (zipT xs ys) h2
      | x, y => match listAt h2 x, listAt h2 y with
        | some xs, some _ => .ok (zipL x y xs.length) h2
        | _, _ => .bad) := by
  refine PI.wk (RZ.pi_zipA hg hm (pa_cons ha (pa_cons hb pa_nil hs2) hs) hs (by rw [hs2]; rfl)) fun t H Q q => ?_
  obtain ⟨r, s, h, R, S, P⟩ := q
  refine ⟨r, s, h, R, S, P.bind (Rv := RA X.K) fun x h1 r1 H1 u1 e1 R1 v1 P1 => ⟨r1, s, h1, R1, S.ext e1, P1.bind (Rv := RA X.K) fun y h2 r2 H2 u2 e2 R2 v2 P2 => ?_⟩⟩
  have v1 := v1.ext e2
  have lists : (∀ xs ys, listAt h2 x = some xs → listAt h2 y = some ys → Post X.K T ca (RIt X.K T ca) (fun c d H' => W c d t H') H2 r2 h2.length (.ok (zipL x y xs.length) h2) Q →
      ∃ a b xs ys, [u1, u2] = [V.ref a, .ref b] ∧ ((SqL X.K H2 a xs ∧ SqL X.K H2 b ys ∧ Q (Itz X.K a b) H2) ∨ (SqT X.K H2 a xs ∧ SqT X.K H2 b ys ∧ Q (RZ.ItzT X.K a b) H2))) := fun xs ys ex ey P2 => by
    obtain ⟨p, vs, q1, q2, q3⟩ := ra_list R2 v1 ex
    obtain ⟨p', ws, q1', q2', q3'⟩ := ra_list R2 v2 ey
    subst q1 q1'
    refine ⟨p, p', vs, ws, rfl, .inl ⟨q2, q2', P2 r2 H2 _ (Ext.refl _ _ _) R2 ?_⟩⟩
    intro H Hs r h i e R up
    have v1' := v1.ext e
    have v2' := v2.ext e
    have no : ∀ z : Option (Option A), (zipL x y xs.length).nx i h = z → (∃ k, z = some k) → ∃ xs' ys', listAt h x = some xs' ∧ listAt h y = some ys' ∧ z = some (match xs'[i]?, ys'[i]? with | some x, some y => some (.tup [x, y]) | _, _ => none) := fun z hz ⟨k, hk⟩ => by
      subst hk
      simp only [zipL] at hz
      split at hz
      · rename_i xs' ys' h1 h2
        exact ⟨xs', ys', h1, h2, hz.symm⟩
      · cases hz
    refine ⟨fun z => ?_, fun y' z => ?_⟩
    · obtain ⟨xs', ys', h1, h2, h3⟩ := no _ z ⟨_, rfl⟩
      obtain ⟨_, zs, g1, g2, g3⟩ := ra_list R v1' h1
      cases g1
      obtain ⟨_, zs', g1', g2', g3'⟩ := ra_list R v2' h2
      cases g1'
      refine ⟨zs, zs', g2.up up, g2'.up up, ?_⟩
      have h3 := Option.some.inj h3
      cases ex' : xs'[i]? with
      | none =>
        have := g3.getN ex'
        rw [List.getElem?_eq_none_iff] at this
        exact .inl this
      | some x1 =>
        cases ey' : ys'[i]? with
        | none =>
          have := g3'.getN ey'
          rw [List.getElem?_eq_none_iff] at this
          exact .inr this
        | some y1 =>
          rw [ex', ey'] at h3
          cases h3
    · obtain ⟨xs', ys', h1, h2, h3⟩ := no _ z ⟨_, rfl⟩
      obtain ⟨_, zs, g1, g2, g3⟩ := ra_list R v1' h1
      cases g1
      obtain ⟨_, zs', g1', g2', g3'⟩ := ra_list R v2' h2
      cases g1'
      have h3 := Option.some.inj h3
      cases ex' : xs'[i]? with
      | none => rw [ex'] at h3; cases h3
      | some x1 =>
        cases ey' : ys'[i]? with
        | none => rw [ex', ey'] at h3; cases h3
        | some y1 =>
          rw [ex', ey'] at h3
          have h3 := Option.some.inj h3
          subst h3
          obtain ⟨v, k1, k2⟩ := g3.get ex'
          obtain ⟨v', k1', k2'⟩ := g3'.get ey'
          refine ⟨⟨zs, zs', v, v', g2.up up, g2'.up up, k1, k1'⟩, fun u H' yy => ?_⟩
          obtain ⟨T', x', y', y1, y2, y3, y4, y5⟩ := yy
          have e1 := y4 zs (g2.up up)
          have e2 := y5 zs' (g2'.up up)
          rw [k1] at e1
          rw [k1'] at e2
          cases e1
          cases e2
          subst y1 y3
          obtain ⟨p1, p2, p3⟩ := pair_new R (up_none up y2) k2 k2'
          exact ⟨_, p1, p2, p3, .inr ⟨_, _, y2, rfl, rfl⟩⟩
  cases x with
  | tup xs =>
    cases y with
    | tup ys =>
      obtain ⟨p, vs, q1, q2, q3⟩ := ra_tup v1
      obtain ⟨p', ws, q1', q2', q3'⟩ := ra_tup v2
      subst q1 q1'
      refine ⟨p, p', vs, ws, rfl, .inr ⟨q2, q2', P2 r2 H2 _ (Ext.refl _ _ _) R2 ?_⟩⟩
      intro H Hs r h i e R up
      obtain ⟨_, zs, g1, g2, g3⟩ := ra_tup (v1.ext e)
      cases g1
      obtain ⟨_, zs', g1', g2', g3'⟩ := ra_tup (v2.ext e)
      cases g1'
      refine ⟨fun z => ?_, fun y' z => ?_⟩
      · refine ⟨zs, zs', g2.up up, g2'.up up, ?_⟩
        have h3 := Option.some.inj z
        cases ex' : xs[i]? with
        | none =>
          have := g3.getN ex'
          rw [List.getElem?_eq_none_iff] at this
          exact .inl this
        | some x1 =>
          cases ey' : ys[i]? with
          | none =>
            have := g3'.getN ey'
            rw [List.getElem?_eq_none_iff] at this
            exact .inr this
          | some y1 =>
            rw [ex', ey'] at h3
            cases h3
      · have h3 := Option.some.inj z
        cases ex' : xs[i]? with
        | none => rw [ex'] at h3; cases h3
        | some x1 =>
          cases ey' : ys[i]? with
          | none => rw [ex', ey'] at h3; cases h3
          | some y1 =>
            rw [ex', ey'] at h3
            have h3 := Option.some.inj h3
            subst h3
            obtain ⟨v, k1, k2⟩ := g3.get ex'
            obtain ⟨v', k1', k2'⟩ := g3'.get ey'
            refine ⟨⟨zs, zs', v, v', g2.up up, g2'.up up, k1, k1'⟩, fun u H' yy => ?_⟩
            obtain ⟨T', x', y', y1, y2, y3, y4, y5⟩ := yy
            have e1 := y4 zs (g2.up up)
            have e2 := y5 zs' (g2'.up up)
            rw [k1] at e1
            rw [k1'] at e2
            cases e1
            cases e2
            subst y1 y3
            obtain ⟨p1, p2, p3⟩ := pair_new R (up_none up y2) k2 k2'
            exact ⟨_, p1, p2, p3, .inr ⟨_, _, y2, rfl, rfl⟩⟩
    | _ => exact P2.elim
  | _ =>
    dsimp only at P2
    split at P2
    · rename_i xs ys ex ey
      exact lists xs ys ex ey P2
    · exact P2.elim
end
end MI

namespace MI
open PySem PyProof.Rows L2
def hid (H : Hp) (D : Addr) : Hp := fun b => if b = D then none else H b
theorem hid_at {H : Hp} {D : Addr} : hid H D D = none := if_pos rfl
theorem hid_ne {H : Hp} {D b : Addr} (h : b ≠ D) : hid H D b = H b := if_neg h
theorem upd_hid {H : Hp} {D : Addr} {o : HO} (h : H D = some o) : upd (hid H D) D o = H := by
  funext b
  by_cases e : b = D
  · rw [e, upd_same, h]
  · rw [upd_ne e, hid_ne e]
section
variable {X : Cx} {pins : List (Addr × Obj)} {σ : L2.St} {H : Hp} {s : Shared}
theorem inv_hide {D : Addr} {acc : List V} (I : Inv X pins σ H s) (hD : H D = some (.lst acc)) : ∃ od, Inv X ((D, od) :: pins) σ (hid H D) s ∧
    ∀ (σ' : L2.St) (H' : Hp) (s' : Shared), Inv X ((D, od) :: pins) σ' H' s' → Inv X pins σ' (upd H' D (.lst acc)) s' ∧ H' D = none := by
  obtain ⟨z, its, n, rv, eD⟩ := I.hok D _ hD
  have neD : ∀ b o, H b = some o → o ≠ .lst acc → b ≠ D := fun b o e d q => d (Option.some.inj ((e.symm.trans (by rw [q])).trans hD))
  have nN : ∀ b, H b = none → b ≠ D := fun b e q => by
    rw [q, hD] at e
    cases e
  have nL : D ≠ X.env.locals := fun q => nN _ I.free q.symm
  have nF : D ∉ X.fs := fun q => by
    rcases I.ok.stk with e | ⟨e, _⟩
    · exact nN D (I.stkFree D (by rw [e]; exact q)) rfl
    · refine nN D (I.stkFree D ?_) rfl
      rw [e]
      unfold frs
      rw [List.filterMap_cons]
      split
      · exact q
      · exact List.mem_cons_of_mem _ q
  refine ⟨{ cls := .type "list", data := .seq its.toArray n }, ⟨I.ok, I.os, I.bare, ⟨I.base.keep, I.base.slot, fun b o e n hx => ?_, I.base.there, fun b xs e => ?_, fun b o u e => ?_, fun b ps e => ?_⟩, I.loc, I.cell, ?_, fun x c e => ?_, fun p hp => ?_, fun b o e => ?_, I.len⟩, fun σ' H' s' J => ?_⟩
  · have q := I.base.free b o e n hx
    rw [hid_ne (nN b q)]
    exact q
  · have q := I.base.tups b xs e
    rw [hid_ne (neD b _ q (fun z => by cases z))]
    exact q
  · have q := I.base.frzs b o u e
    rw [hid_ne (neD b _ q (fun z => by cases z))]
    exact q
  · obtain ⟨m, q⟩ := I.base.tbls b ps e
    exact ⟨m, by rw [hid_ne (neD b _ q (fun z => by cases z))]; exact q⟩
  · rw [hid_ne (nN _ I.free)]
    exact I.free
  · rw [hid_ne (nN _ (I.freeC x c e))]
    exact I.freeC x c e
  · rcases List.mem_append.mp hp with hp | hp
    · obtain ⟨h1, h2, h3⟩ := I.pin p (List.mem_append_left _ hp)
      exact ⟨h1, by rw [hid_ne (nN _ h2)]; exact h2, h3⟩
    · rcases List.mem_cons.mp hp with hp | hp
      · subst hp
        exact ⟨eD, hid_at, nL, nF, fun v q => by cases q⟩
      · obtain ⟨h1, h2, h3⟩ := I.pin p (List.mem_append_right _ hp)
        exact ⟨h1, by rw [hid_ne (nN _ h2)]; exact h2, h3⟩
  · by_cases hb : b = D
    · rw [hb, hid_at] at e
      cases e
    · rw [hid_ne hb] at e
      exact (I.hok b o e).stay (fun _ _ _ q => q) (fun c q => by rw [hid_ne (neD c _ q (fun z => by cases z))]; exact q) fun c xs q => by rw [hid_ne (neD c _ q (fun z => by cases z))]; exact q
  · obtain ⟨pD, hDn, pL, pF, pc⟩ := J.pin (D, _) (List.mem_append_right _ List.mem_cons_self)
    have nS : ∀ b o, H' b = some o → b ≠ D := fun b o e q => by
      rw [q, hDn] at e
      cases e
    refine ⟨⟨J.ok, J.os, J.bare, ⟨J.base.keep, J.base.slot, fun b o e n hx => ?_, J.base.there, fun b xs e => ?_, fun b o u e => ?_, fun b ps e => ?_⟩, J.loc, J.cell, ?_, fun x c e => ?_, fun p hp => ?_, fun b o e => ?_, J.len⟩, hDn⟩
    · have q : b ≠ D := nN b (I.base.free b o e n hx)
      rw [upd_ne q]
      exact J.base.free b o e n hx
    · have q := J.base.tups b xs e
      rw [upd_ne (nS b _ q)]
      exact q
    · have q := J.base.frzs b o u e
      rw [upd_ne (nS b _ q)]
      exact q
    · obtain ⟨m, q⟩ := J.base.tbls b ps e
      exact ⟨m, by rw [upd_ne (nS b _ q)]; exact q⟩
    · rw [upd_ne (Ne.symm nL)]
      exact J.free
    · have q : c ≠ D := nN c (I.freeC x c e)
      rw [upd_ne q]
      exact J.freeC x c e
    · have h2 := (I.pin p hp).2.1
      have m : p ∈ X.pn ++ (D, ({ cls := .type "list", data := .seq its.toArray n } : Obj)) :: pins := by
        rcases List.mem_append.mp hp with hp | hp
        · exact List.mem_append_left _ hp
        · exact List.mem_append_right _ (List.mem_cons_of_mem _ hp)
      obtain ⟨g1, g2, g3⟩ := J.pin p m
      exact ⟨g1, by rw [upd_ne (nN _ h2)]; exact g2, g3⟩
    · by_cases hb : b = D
      · rw [hb, upd_same] at e
        cases e
        rw [hb]
        exact ⟨z, its, n, rv, pD⟩
      · rw [upd_ne hb] at e
        exact (J.hok b o e).stay (fun _ _ _ q => q) (fun c q => by rw [upd_ne (nS c _ q)]; exact q) fun c xs q => by rw [upd_ne (nS c _ q)]; exact q
end
/-- the code runs while the list at D is out of sight -/
theorem pe_hide {X : Cx} {e : Expr} {t : TE} (h : PE X e t) : PE X e (fun σ H Q => ∃ D acc, H D = some (.lst acc) ∧ t σ (hid H D) fun v H' => H' D = none → Q v (upd H' D (.lst acc))) := ⟨fun pins s σ H Q I q => by
  obtain ⟨D, acc, hD, q⟩ := q
  obtain ⟨od, I1, back⟩ := inv_hide I hD
  refine thn (h.run _ s σ _ _ I1 q) fun u s1 ⟨v, H1, J, r, q1⟩ => ?_
  obtain ⟨J1, n1⟩ := back _ _ _ J
  exact ⟨v, _, J1, r, q1 n1⟩⟩
theorem pts_hide {X : Cx} {e : List Expr} {t : TT} (h : PTs X e t) : PTs X e (fun σ H Q => ∃ D acc, H D = some (.lst acc) ∧ t σ (hid H D) fun v H' => H' D = none → Q v (upd H' D (.lst acc))) := ⟨fun pins s σ H Q I q => by
  obtain ⟨D, acc, hD, q⟩ := q
  obtain ⟨od, I1, back⟩ := inv_hide I hD
  refine thn (h.run _ s σ _ _ I1 q) fun u s1 ⟨H1, J, q1⟩ => ?_
  obtain ⟨J1, n1⟩ := back _ _ _ J
  exact ⟨_, J1, q1 n1⟩⟩
theorem pg_hide {X : Cx} {e : Expr} {t : TG} (h : PG X e t) : PG X e (fun v σ H Q => ∃ D acc, H D = some (.lst acc) ∧ t v σ (hid H D) fun σ' H' => H' D = none → Q σ' (upd H' D (.lst acc))) := ⟨fun pins s σ H v u Q I r q => by
  obtain ⟨D, acc, hD, q⟩ := q
  obtain ⟨od, I1, back⟩ := inv_hide I hD
  refine thn (h.run _ s σ _ v u _ I1 r q) fun _ s1 ⟨σ1, H1, J, q1⟩ => ?_
  obtain ⟨J1, n1⟩ := back _ _ _ J
  exact ⟨_, _, J1, q1 n1⟩⟩
section
variable {X : Cx} {T : List (Addr × Str)} {ca : Str → Option Addr} {W : WX} {E : XK}
theorem jg_nm {i : Nat} {x : Str} {pos : Pos} (hN : X.N.Nodup) (hi : X.N[i]? = some x) (hx : Loc X.env.scope x) (hf : X.fn x = true ∨ X.env.scope.names.lookup x = some .local) : PG X (.Name x pos) (gM X.K T ca W fun v s h => .ok (s.set i (some v)) h) := by
  refine PG.wk (pg_name hN hi hx hf) fun v t H Q q => ?_
  obtain ⟨r, s, h, a, R, S, ra, P⟩ := q
  exact Post.here (Rv := RSt X.K) P R (S.set i ra)
theorem jgs_nil : PGs X [] (gsM X.K T ca W fun vs s h => match vs with | [] => .ok s h | _ => .bad) := by
  refine PGs.wk pgs_nil fun vs t H Q q => ?_
  obtain ⟨r, s, h, as, R, S, ra, P⟩ := q
  cases ra with
  | nil => exact ⟨rfl, Post.here (Rv := RSt X.K) P R S⟩
  | cons _ _ => exact P.elim
theorem jgs_cons {e : Expr} {es : List Expr} {m : A → ASt → AH → R ASt} {ms : List A → ASt → AH → R ASt} (h1 : PG X e (gM X.K T ca (cW E) m)) (h2 : PGs X es (gsM X.K T ca (cW E) ms)) (hs : (assignEach (e :: es) X.env).map (·.2) = assign e X.env :: (assignEach es X.env).map (·.2)) :
    PGs X (e :: es) (gsM X.K T ca (cW E) fun vs s h => match vs with
      | v :: r => (m v s h).bind fun s1 h1 => ms r s1 h1
      | [] => .bad) := by
  refine PGs.wk (pgs_cons h1 h2 hs) fun vs t H Q q => ?_
  obtain ⟨r, s, h, as, R, S, ra, P⟩ := q
  cases ra with
  | nil => exact P.elim
  | @cons x v xs vs a b =>
    refine ⟨v, vs, rfl, r, s, h, x, R, S, a, P.bind (Rv := RSt X.K) fun s1 h1 r1 H1 u1 e1 R1 v1 P1 => ?_⟩
    exact ⟨r1, s1, h1, xs, R1, v1, b.ext e1, P1⟩
theorem jg_tp {es : List Expr} {k : Nat} {pos : Pos} {ms : List A → ASt → AH → R ASt} (hc : X.calm = true) (h : PGs X es (gsM X.K T ca W ms)) (hn : (assignEach es X.env).length = es.length) (hst : (assignEach es X.env).findIdx? (·.1) = none)
    {len : Nat} (hl : len = es.length) : PG X (.Tuple es k pos) (gM X.K T ca W fun v s h => match v with
      | .tup xs => if xs.length = len then ms xs s h else .bad
      | _ => .bad) := by
  refine PG.wk (pg_tup hc h hn hst) fun v t H Q q => ?_
  obtain ⟨r, s, h, a, R, S, ra, P⟩ := q
  cases a with
  | tup xs =>
    obtain ⟨p, vs, e1, e2, e3⟩ := ra_tup ra
    dsimp only at P
    by_cases hx : xs.length = len
    · rw [if_pos hx] at P
      exact ⟨p, vs, e1, e2, by rw [← e3.length, hx, hl], r, s, h, xs, R, S, e3, P⟩
    · rw [if_neg hx] at P
      exact P.elim
  | _ => exact P.elim
theorem rks_any {K : PySem.W.Frag} {H : Hp} {r : Rho} {n : Nat} {k : Key} {kvs : List (Key × A)} {vs : List (Key × V)} (h : RKs K H r n kvs vs) : (kvs.any fun p => decide (p.1 = k)) = (vs.any fun p => decide (p.1 = k)) := by
  induction h with
  | nil => rfl
  | cons _ _ ih => simp only [List.any_cons, ih]
theorem rks_map {K : PySem.W.Frag} {H : Hp} {r : Rho} {n : Nat} {k : Key} {a : A} {v : V} {kvs : List (Key × A)} {vs : List (Key × V)} (h : RKs K H r n kvs vs) (ra : RA K H r n a v) : RKs K H r n (kvs.map fun p => if p.1 = k then (p.1, a) else p) (vs.map fun p => if p.1 = k then (p.1, v) else p) := by
  induction h with
  | nil => exact .nil
  | @cons k' x w xs vs h1 h2 ih =>
    simp only [List.map_cons]
    by_cases e : k' = k
    · rw [if_pos e, if_pos e]
      exact .cons ra ih
    · rw [if_neg e, if_neg e]
      exact .cons h1 ih
theorem rks_app {κ : Type} {K : PySem.W.Frag} {H : Hp} {r : Rho} {n : Nat} {kvs ks : List (κ × A)} {vs ws : List (κ × V)} (h : RKs K H r n kvs vs) (g : RKs K H r n ks ws) : RKs K H r n (kvs ++ ks) (vs ++ ws) := by
  induction h with
  | nil => exact g
  | cons h1 h2 ih => exact .cons h1 ih
theorem put_rel {K : PySem.W.Frag} {H : Hp} {r : Rho} {n : Nat} {k : Key} {a : A} {v : V} {kvs : List (Key × A)} {vs : List (Key × V)} (h : RKs K H r n kvs vs) (ra : RA K H r n a v) : RKs K H r n (putKA k a kvs) (putK vs k v) := by
  unfold putKA putK
  rw [rks_any h]
  split
  · exact rks_map h ra
  · exact rks_app h (.cons ra .nil)
/-- o[i] = v, a dict -/
theorem jg_sb {o i : Expr} {pos : Pos} {mo mi : ASt → AH → R A} (hu : X.A.units + 64 < cLine) (ho : PE X o (tM X.K T ca (cW E) mo)) (hi : PE X i (tM X.K T ca (cW E) mi)) (ha : ∀ v, assign (.Subscript o i pos) X.env v = (do
      let ov ← holding [v] (eval o X.env)
      let iv ← holding [v, ov] (eval i X.env)
      standAt pos
      holding [v, ov, iv] (setItem ov iv v)
      release [v, ov, iv] [])) : PG X (.Subscript o i pos) (gM X.K T ca (cW E) fun v s h => (mo s h).bind fun x h1 => (mi s h1).bind fun y h2 => match x with
      | .loc l => match h2[l]? with
        | some (.dic false kvs) => match keyA y with
          | some k => if small kvs.length then .ok s (h2.set l (.dic false (putKA k v kvs))) else .bad
          | none => .bad
        | _ => .bad
      | _ => .bad) := by
  refine PG.wk (pg_sub ho hi (set_dict (Nat.lt_of_le_of_lt (by omega) hu)) ha) fun v t H Q q => ?_
  obtain ⟨r, s, h, a, R, S, ra, P⟩ := q
  refine ⟨r, s, h, R, S, P.bind (Rv := RA X.K) fun x h1 r1 H1 u1 e1 R1 v1 P1 => ⟨r1, s, h1, R1, S.ext e1, P1.bind (Rv := RA X.K) fun y h2 r2 H2 u2 e2 R2 v2 P2 => ?_⟩⟩
  cases v1 with
  | loc l hl =>
    dsimp only at P2
    split at P2
    · rename_i kvs ek
      split at P2
      · rename_i k ekk
        obtain ⟨hz, P2⟩ := P2.ite
        obtain ⟨vs, q1, q2⟩ := R2.obj l _ ek
        have hl2 : l < h2.length := (List.getElem?_eq_some_iff.mp ek).1
        have el : r1 l = r2 l := (e2.same l hl).symm
        have ey := ra_key v2 ekk
        subst ey
        have ep : Ext H2 r2 h2.length (upd H2 (r2 l) (.dK (putK vs k v))) r2 h2.length := Ext.put hl2 q1
        have rv := ((ra.ext e1).ext e2)
        refine ⟨r2 l, _, by rw [el], DPut.k q1 (by rw [← rks_len q2]; exact small_lt hz), ?_⟩
        refine P2 r2 _ t (by rw [List.length_set]; exact ep) (R2.put hl2 ⟨_, upd_same, (put_rel q2 rv).ext ep⟩) ?_
        rw [List.length_set]
        exact ((S.ext e1).ext e2).ext ep
      · exact P2.elim
    · exact P2.elim
  | _ => exact P2.elim
/-- the tests of a clause -/
def tsM (K : PySem.W.Frag) (T : List (Addr × Str)) (ca : Str → Option Addr) (W : WX) (m : ASt → AH → R (List A)) : TT := fun t H Q => ∃ (r : Rho) (s : ASt) (h : AH), Rel K T ca H r h ∧ RSt K H r h.length s t ∧
  Post K T ca (REq (α := Bool)) (fun c d H' => W c d t H') H r h.length ((m s h).bind fun bs h1 => match boolsA bs with | some bs => .ok (bs.all id) h1 | none => .bad) Q
theorem jts_nil : PTs X [] (tsM X.K T ca W fun _ h => .ok [] h) := by
  refine ⟨fun pins s σ H Q I q => (pts_nil (X := X)).run pins s σ H Q I ?_⟩
  obtain ⟨r, s, h, R, S, P⟩ := q
  exact Post.here (Rv := REq) (v := true) P R rfl
theorem jts_one {c : Expr} {m : ASt → AH → R A} (hc : PT X c (bM X.K T ca W m)) : PTs X [c] (tsM X.K T ca W fun s h => (m s h).bind fun x h1 => MI.R.bind (.ok [] h1) fun xs h2 => .ok (x :: xs) h2) := by
  refine ⟨fun pins s σ H Q I q => (pts_one hc).run pins s σ H Q I ?_⟩
  obtain ⟨r, s, h, R, S, P⟩ := q
  refine ⟨r, s, h, R, S, ?_⟩
  have P : Post X.K T ca (REq (α := Bool)) (fun c d H' => W c d σ H') H r h.length (((m s h).bind fun x h1 => MI.R.bind (.ok [] h1) fun xs h2 => .ok (x :: xs) h2).bind fun bs h1 => match boolsA bs with | some bs => .ok (bs.all id) h1 | none => .bad) Q := P
  cases em : m s h with
  | bad => rw [em] at P; exact P
  | exc c h1 => rw [em] at P; exact P
  | ok v h1 =>
    rw [em] at P
    cases v with
    | bl k =>
      intro r1 H1 b e1 R1 eb
      cases eb
      refine P r1 H1 k e1 R1 ?_
      show ([k].all id) = k
      simp
    | _ => exact P.elim
/-- a comprehension's turn -/
def mTurn (mg : A → ASt → AH → R ASt) (mt : ASt → AH → R (List A)) (me : ASt → AH → R A) (s : ASt) (own : List Nat) : A → AH → R (Option A) := fun x h2 => (mg x (wipeA s own) h2).bind fun s2 h3 => (mt s2 h3).bind fun bs h4 => match boolsA bs with
          | some bs => if bs.all id then (me s2 h4).bind fun y h5 => .ok (some y) h5 else .ok none h4
          | none => .bad
abbrev W0 : WX := cW fun _ _ _ => False
theorem compL_succ {nx : Nat → AH → Option (Option A)} {bd : A → AH → R (Option A)} {f i : Nat} {acc : List A} {h : AH} : compL nx bd (f + 1) i acc h = (match nx i h with
    | none => .bad
    | some none => .ok acc h
    | some (some x) => match bd x h with
      | .ok (some y) h' => if small acc.length then compL nx bd f (i + 1) (acc ++ [y]) h' else .bad
      | .ok none h' => compL nx bd f (i + 1) acc h'
      | .exc _ _ => .bad
      | .bad => .bad) := rfl
theorem hid_upd {H : Hp} {D : Addr} {o : HO} (h : H D = none) : hid (upd H D o) D = H := by
  funext b
  by_cases e : b = D
  · rw [e, hid_at, h]
  · rw [hid_ne e, upd_ne e]
theorem hid_upd2 {H : Hp} {D q : Addr} {o : HO} (h : q ≠ D) : hid (upd H q o) D = upd (hid H D) q o := by
  funext b
  by_cases e : b = D
  · rw [e, hid_at, upd_ne (Ne.symm h), hid_at]
  · rw [hid_ne e]
    by_cases e2 : b = q
    · rw [e2, upd_same, upd_same]
    · rw [upd_ne e2, upd_ne e2, hid_ne e]
theorem hid_up {H : Hp} {D : Addr} : ∀ a o, hid H D a = some o → H a = some o := fun a o e => by
  by_cases h : a = D
  · rw [h, hid_at] at e
    cases e
  · rw [hid_ne h] at e
    exact e
theorem lc_read {K : PySem.W.Frag} {wi : TI} {own : List Nat} {al : Bool} {mi : ASt → AH → R MI.It} {mg : A → ASt → AH → R ASt} {mt : ASt → AH → R (List A)} {me : ASt → AH → R A} {t : L2.St} {H : Hp} {Q : VK} {g : TG} {tt : TT} {te : TE}
    (hwi : ∀ R, iM K T ca W mi t H R → wi t H R)
    (hg : ∀ (x : V) (t : L2.St) (H : Hp) (Q : L2.St → Hp → Prop), (∃ D acc, H D = some (.lst acc) ∧ gM K T ca W0 mg x (wipe t own) (hid H D) fun t' H' => H' D = none → Q t' (upd H' D (.lst acc))) → g x (wipe t own) H fun t' H' => wipe t' own = wipe t own ∧ Q t' H')
    (ht : ∀ (t : L2.St) (H : Hp) (Q : Bool → Hp → Prop), (∃ D acc, H D = some (.lst acc) ∧ tsM K T ca W0 mt t (hid H D) fun b H' => H' D = none → Q b (upd H' D (.lst acc))) → tt t H Q)
    (he : ∀ (t : L2.St) (H : Hp) (Q : VK), (∃ D acc, H D = some (.lst acc) ∧ tM K T ca W0 me t (hid H D) fun v H' => H' D = none → Q v (upd H' D (.lst acc))) → te t H Q)
    (q : tM K T ca W (fun s h => (mi s h).bind fun J h1 => (compL J.nx (mTurn mg mt me s own) J.most 0 [] h1).bind fun ys h6 => newL al ys h6) t H Q) : tLc wi g tt te own t H Q := by
  obtain ⟨r, s, h, R, S, P⟩ := q
  refine hwi _ ⟨r, s, h, R, S, P.bind (Rv := RIt K T ca) fun j h1 r1 H1 J e1 R1 v1 P1 D hD => ?_⟩
  have S1 := S.ext e1
  refine ⟨fun i m Hc => ∃ (r2 : Rho) (h2 : AH) (acc : List A) (vs : List V), Ext H1 r1 h1.length (hid Hc D) r2 h2.length ∧ Rel K T ca (hid Hc D) r2 h2 ∧ Hc D = some (.lst vs) ∧ RAs K (hid Hc D) r2 h2.length acc vs ∧
      Post K T ca (RA K) (fun c d H' => W c d t H') (hid Hc D) r2 h2.length ((compL j.nx (mTurn mg mt me s own) m i acc h2).bind fun ys h6 => newL al ys h6) Q, ⟨j.most, r1, h1, [], [], ?_, ?_, upd_same, .nil, ?_⟩, ?_⟩
  · rw [hid_upd hD]
    exact Ext.refl _ _ _
  · rw [hid_upd hD]
    exact R1
  · rw [hid_upd hD]
    exact P1
  · rintro i m Hc ⟨r2, h2, acc, vs, e2, R2, hDc, ra, P2⟩
    cases m with
    | zero => exact P2.elim
    | succ m =>
      rw [compL_succ] at P2
      obtain ⟨st, yl⟩ := v1 Hc (hid Hc D) r2 h2 i e2 R2 hid_up
      cases en : j.nx i h2 with
      | none => rw [en] at P2; exact P2.elim
      | some ox =>
        rw [en] at P2
        cases ox with
        | none =>
          refine .inl ⟨st en, ?_⟩
          have z := newL_ok R2 ra hid_at P2
          rw [upd_hid hDc] at z
          exact z
        | some x =>
          obtain ⟨go, yl⟩ := yl x en
          refine .inr ⟨go, _, fun H' w => ⟨m, Nat.lt_succ_self m, w⟩, fun u H' y => ?_⟩
          obtain ⟨Hs', e3, R3, rx, hh⟩ := yl u H' y
          have hs : Hs' = hid H' D ∧ H' D = some (.lst vs) := by
            rcases hh with ⟨a1, a2⟩ | ⟨q, o, a1, a2, a3⟩
            · subst a1 a2
              exact ⟨rfl, hDc⟩
            · have nq : q ≠ D := fun z => by
                rw [z, hDc] at a1
                cases a1
              subst a2 a3
              exact ⟨(hid_upd2 nq).symm, by rw [upd_ne (Ne.symm nq)]; exact hDc⟩
          obtain ⟨hs, hD'⟩ := hs
          subst hs
          -- the target
          refine hg u t H' _ ⟨D, vs, hD', r2, wipeA s own, h2, x, R3, ((S1.ext e2).ext e3).wipe own, rx, ?_⟩
          have P2 := Post.step e3 P2
          dsimp only at P2
          cases eg : mg x (wipeA s own) h2 with
          | bad =>
            have et : mTurn mg mt me s own x h2 = .bad := by
              unfold mTurn
              rw [eg]
              rfl
            rw [et] at P2
            exact P2.elim
          | exc c hx =>
            have et : mTurn mg mt me s own x h2 = .exc c hx := by
              unfold mTurn
              rw [eg]
              rfl
            rw [et] at P2
            exact P2.elim
          | ok s3 h3 =>
            have et : mTurn mg mt me s own x h2 = ((mt s3 h3).bind fun bs h4 => match boolsA bs with
                | some bs => if bs.all id then (me s3 h4).bind fun y h5 => .ok (some y) h5 else .ok none h4
                | none => .bad) := by
              unfold mTurn
              rw [eg]
              rfl
            intro r4 H4 t4 e4 R4 S4 n4
            have P2 := Post.step e4 P2
            refine ht t4 _ _ ⟨D, vs, upd_same, ?_⟩
            rw [hid_upd n4]
            refine ⟨r4, s3, h3, R4, S4, ?_⟩
            cases em : mt s3 h3 with
            | bad =>
              rw [em] at et
              rw [et] at P2
              exact P2.elim
            | exc c hx =>
              rw [em] at et
              rw [et] at P2
              exact P2.elim
            | ok bs h5 =>
              rw [em] at et
              dsimp only [MI.R.bind] at et ⊢
              cases eb : boolsA bs with
              | none =>
                rw [eb] at et
                rw [et] at P2
                exact P2.elim
              | some bl =>
                rw [eb] at et
                dsimp only at et
                intro r5 H5 b e5 R5 hb n5
                cases hb
                have P2 := Post.step e5 P2
                cases ea : bl.all id with
                | false =>
                  rw [ea, if_neg Bool.false_ne_true] at et
                  rw [et] at P2
                  refine iteF ⟨r5, h5, acc, vs, ?_, ?_, upd_same, ?_, ?_⟩
                  · rw [hid_upd n5]
                    exact ((e2.trans e3).trans e4).trans e5
                  · rw [hid_upd n5]
                    exact R5
                  · rw [hid_upd n5]
                    exact ((ra.ext e3).ext e4).ext e5
                  · rw [hid_upd n5]
                    exact P2
                | true =>
                  refine iteT ?_
                  rw [ea, if_pos rfl] at et
                  refine he t4 _ _ ⟨D, vs, upd_same, ?_⟩
                  rw [hid_upd n5]
                  refine ⟨r5, s3, h5, R5, S4.ext e5, ?_⟩
                  cases ee : me s3 h5 with
                  | bad =>
                    rw [ee] at et
                    rw [et] at P2
                    exact P2.elim
                  | exc c hx =>
                    rw [ee] at et
                    rw [et] at P2
                    exact P2.elim
                  | ok y h6 =>
                    rw [ee] at et
                    rw [et] at P2
                    intro r6 H6 v6 e6 R6 ry n6
                    have P2 := Post.step e6 P2
                    dsimp only [MI.R.bind] at P2
                    cases hz : small acc.length with
                    | false =>
                      rw [hz] at P2
                      exact P2.elim
                    | true =>
                      rw [hz, if_pos rfl] at P2
                      refine ⟨vs, upd_same, by rw [← ra.length]; exact small_lt hz, r6, h6, acc ++ [y], vs ++ [v6], ?_, ?_, upd_same, ?_, ?_⟩
                      · rw [upd_upd, hid_upd n6]
                        exact (((e2.trans e3).trans e4).trans e5).trans e6
                      · rw [upd_upd, hid_upd n6]
                        exact R6
                      · rw [upd_upd, hid_upd n6]
                        exact ((((ra.ext e3).ext e4).ext e5).ext e6).append (.cons ry .nil)
                      · rw [upd_upd, hid_upd n6]
                        exact P2
theorem wipe_set {own : List Nat} {i : Nat} (hi : i ∈ own) (v : Option V) : ∀ t : L2.St, wipe (t.set i v) own = wipe t own := by
  induction own with
  | nil => cases hi
  | cons j own ih =>
    intro t
    unfold wipe
    by_cases e : i ∈ own
    · rw [ih e t]
    · have ej : i = j := by
        rcases List.mem_cons.mp hi with h | h
        · exact h
        · exact absurd h e
      subst ej
      have w : ∀ (vs : List Nat) (t : L2.St), i ∉ vs → wipe (t.set i v) vs = (wipe t vs).set i v := by
        intro vs
        induction vs with
        | nil => intro t _; rfl
        | cons k vs ihh =>
          intro t hk
          simp only [List.mem_cons, not_or] at hk
          unfold wipe
          rw [ihh t hk.2, List.set_comm _ _ (fun z => hk.1 z)]
      rw [w own t e, List.set_set]
theorem wipe_wipe (own : List Nat) (t : L2.St) : wipe (wipe t own) own = wipe t own := by
  have key : ∀ vs : List Nat, (∀ v, v ∈ vs → v ∈ own) → wipe (wipe t vs) own = wipe t own := by
    intro vs
    induction vs with
    | nil => intro _; rfl
    | cons v vs ih =>
      intro h
      show wipe ((wipe t vs).set v none) own = _
      rw [wipe_set (h v List.mem_cons_self)]
      exact ih fun w hw => h w (List.mem_cons_of_mem _ hw)
  exact key own fun _ h => h
def gO (K : PySem.W.Frag) (T : List (Addr × Str)) (ca : Str → Option Addr) (own : List Nat) (m : A → ASt → AH → R ASt) : TG := fun v t H Q => ∃ (r : Rho) (s : ASt) (h : AH) (a : A), Rel K T ca H r h ∧ RSt K H r h.length s t ∧ RA K H r h.length a v ∧
  Post K T ca (fun H r n s' t' => RSt K H r n s' t' ∧ wipe t' own = wipe t own) (fun _ _ _ => False) H r h.length (m a s h) Q
def gsO (K : PySem.W.Frag) (T : List (Addr × Str)) (ca : Str → Option Addr) (own : List Nat) (m : List A → ASt → AH → R ASt) : TGs := fun vs t H Q => ∃ (r : Rho) (s : ASt) (h : AH) (as : List A), Rel K T ca H r h ∧ RSt K H r h.length s t ∧ RAs K H r h.length as vs ∧
  Post K T ca (fun H r n s' t' => RSt K H r n s' t' ∧ wipe t' own = wipe t own) (fun _ _ _ => False) H r h.length (m as s h) Q
theorem jgo_nm {own : List Nat} {i : Nat} {x : Str} {pos : Pos} (hN : X.N.Nodup) (hi : X.N[i]? = some x) (hx : Loc X.env.scope x) (hf : X.fn x = true ∨ X.env.scope.names.lookup x = some .local) (ho : i ∈ own) : PG X (.Name x pos) (gO X.K T ca own fun v s h => .ok (s.set i (some v)) h) := by
  refine PG.wk (pg_name hN hi hx hf) fun v t H Q q => ?_
  obtain ⟨r, s, h, a, R, S, ra, P⟩ := q
  exact P r H _ (Ext.refl _ _ _) R ⟨S.set i ra, wipe_set ho _ t⟩
theorem jgos_nil {own : List Nat} : PGs X [] (gsO X.K T ca own fun vs s h => match vs with | [] => .ok s h | _ => .bad) := by
  refine PGs.wk pgs_nil fun vs t H Q q => ?_
  obtain ⟨r, s, h, as, R, S, ra, P⟩ := q
  cases ra with
  | nil => exact ⟨rfl, P r H _ (Ext.refl _ _ _) R ⟨S, rfl⟩⟩
  | cons _ _ => exact P.elim
theorem jgos_cons {own : List Nat} {e : Expr} {es : List Expr} {m : A → ASt → AH → R ASt} {ms : List A → ASt → AH → R ASt} (h1 : PG X e (gO X.K T ca own m)) (h2 : PGs X es (gsO X.K T ca own ms)) (hs : (assignEach (e :: es) X.env).map (·.2) = assign e X.env :: (assignEach es X.env).map (·.2)) :
    PGs X (e :: es) (gsO X.K T ca own fun vs s h => match vs with
      | v :: r => (m v s h).bind fun s1 h1 => ms r s1 h1
      | [] => .bad) := by
  refine PGs.wk (pgs_cons h1 h2 hs) fun vs t H Q q => ?_
  obtain ⟨r, s, h, as, R, S, ra, P⟩ := q
  cases ra with
  | nil => exact P.elim
  | @cons x v xs vs a b =>
    refine ⟨v, vs, rfl, r, s, h, x, R, S, a, P.bind (Rv := fun H r n s' t' => RSt X.K H r n s' t' ∧ wipe t' own = wipe t own) fun s1 h1 r1 H1 u1 e1 R1 v1 P1 => ?_⟩
    refine ⟨r1, s1, h1, xs, R1, v1.1, b.ext e1, ?_⟩
    have ew := v1.2
    cases em : ms xs s1 h1 with
    | bad => rw [em] at P1; exact P1
    | exc c h' => rw [em] at P1; exact P1
    | ok s2 h2 =>
      rw [em] at P1
      exact fun r2 H2 u2 e2 R2 v2 => P1 r2 H2 u2 e2 R2 ⟨v2.1, v2.2.trans ew⟩
theorem jgo_tp {own : List Nat} {es : List Expr} {k : Nat} {pos : Pos} {ms : List A → ASt → AH → R ASt} (hc : X.calm = true) (h : PGs X es (gsO X.K T ca own ms)) (hn : (assignEach es X.env).length = es.length) (hst : (assignEach es X.env).findIdx? (·.1) = none)
    {len : Nat} (hl : len = es.length) : PG X (.Tuple es k pos) (gO X.K T ca own fun v s h => match v with
      | .tup xs => if xs.length = len then ms xs s h else .bad
      | _ => .bad) := by
  refine PG.wk (pg_tup hc h hn hst) fun v t H Q q => ?_
  obtain ⟨r, s, h, a, R, S, ra, P⟩ := q
  cases a with
  | tup xs =>
    obtain ⟨p, vs, e1, e2, e3⟩ := ra_tup ra
    dsimp only at P
    by_cases hx : xs.length = len
    · rw [if_pos hx] at P
      exact ⟨p, vs, e1, e2, by rw [← e3.length, hx, hl], r, s, h, xs, R, S, e3, P⟩
    · rw [if_neg hx] at P
      exact P.elim
  | _ => exact P.elim
/-- .. at the end of a piece that began at H -/
def UnQ {β : Type} (H : Hp) (Q : β → Hp → Prop) : β → Hp → Prop := fun v H' => Q v H' ∨ ∃ d od u, H' d = some (.frz od u) ∧ (∀ o' u', H d ≠ some (.frz o' u')) ∧ Q v (upd H' d u)
theorem pe_unl {e : Expr} {t : TE} (h : PE X e t) : PE X e (fun σ H Q => t σ H (UnQ H Q)) := ⟨fun pins s σ H Q I hw => thn (h.run pins s σ H _ I hw) fun v s1 ⟨x, H1, I2, r, q⟩ => by
  rcases q with q | ⟨d, od, u, e, hn, q⟩
  · exact ⟨x, H1, I2, r, q⟩
  · exact ⟨x, _, I2.unlock e (fun o' u' z => hn _ _ (I.base.frzs d o' u' z)), r, q⟩⟩
theorem unl_ext {K : PySem.W.Frag} {H H' : Hp} {r r' : Rho} {h h' : AH} {l : Nat} {kvs : List (Key × A)} (R : Rel K T ca H r h) (hk : lkOk h (some l) = true) (e : Ext H r h.length H' r' h'.length) (R' : Rel K T ca H' r' h') (el : h'[l]? = some (.dic true kvs)) :
    ∃ o vs, H' (r' l) = some (.frz o (.dK vs)) ∧ (∀ o' u', H (r' l) ≠ some (.frz o' u')) ∧ Ext0 H' r' h'.length (upd H' (r' l) (.dK vs)) r' h'.length ∧ Ext H r h.length (upd H' (r' l) (.dK vs)) r' (h'.set l (.dic false kvs)).length ∧ Rel K T ca (upd H' (r' l) (.dK vs)) r' (h'.set l (.dic false kvs)) := by
  obtain ⟨o, vs, q, rk⟩ := R'.obj l _ el
  have hl : l < h'.length := (List.getElem?_eq_some_iff.mp el).1
  have ep : Ext0 H' r' h'.length (upd H' (r' l) (.dK vs)) r' h'.length := Ext0.put hl q
  have hn : ∀ o' u', H (r' l) ≠ some (.frz o' u') := fun o' u' z => by
    by_cases hl0 : l < h.length
    · rw [e.same l hl0] at z
      have eo := List.getElem?_eq_getElem hl0
      have ro := R.obj l _ eo
      cases eob : h[l] with
      | lst xs =>
        rw [eob] at ro
        obtain ⟨_, g, _⟩ := ro
        rw [z] at g
        cases g
      | ins c fs =>
        rw [eob] at ro
        obtain ⟨_, _, _, _, g, _⟩ := ro
        rw [z] at g
        cases g
      | dic lk kv =>
        cases lk with
        | false =>
          rw [eob] at ro
          obtain ⟨_, g, _⟩ := ro
          rw [z] at g
          cases g
        | true =>
          dsimp only [lkOk] at hk
          rw [eo, eob] at hk
          cases hk
    · obtain ⟨ps, g⟩ := e.fresh l (Nat.not_lt.mp hl0) hl _ z
      cases g
  refine ⟨o, vs, q, hn, ep, ?_, R'.put hl ⟨vs, upd_same, rk.ext0 ep⟩⟩
  rw [List.length_set]
  refine ⟨e.toExt0.trans ep, fun a o' u' z => ?_⟩
  rw [upd_ne (fun y => hn o' u' (by rw [← y]; exact z))]
  exact e.frz a o' u' z
theorem unR_post {K : PySem.W.Frag} {W' : Value → Option Addr → Hp → Prop} {H : Hp} {r : Rho} {h : AH} {raw : R A} {lk : Option Nat} {Q : VK} (R : Rel K T ca H r h) (hx : ∀ c h', raw ≠ .exc c h') (P : Post K T ca (RA K) W' H r h.length (if lkOk h lk = true then raw.un lk else .bad) Q) : Post K T ca (RA K) W' H r h.length raw (UnQ H Q) := by
  obtain ⟨hk, P⟩ := P.ite
  cases raw with
  | bad => exact P
  | exc c h' => exact absurd rfl (hx c h')
  | ok v h' =>
    cases lk with
    | none => exact fun r' H' u e R' rv => .inl (P r' H' u e R' rv)
    | some l =>
      simp only [MI.R.un, unlk] at P
      intro r' H' u e R' rv
      cases el : h'[l]? with
      | none => rw [el] at P; exact P.elim
      | some ob =>
        rw [el] at P
        cases ob with
        | lst xs => exact P.elim
        | ins c fs => exact P.elim
        | dic b kvs =>
          cases b with
          | false => exact P.elim
          | true =>
            obtain ⟨o, vs, q, hn, ep, e2, R2⟩ := unl_ext R hk e R' el
            refine .inr ⟨r' l, o, .dK vs, q, hn, P r' _ u e2 R2 ?_⟩
            rw [List.length_set]
            exact rv.ext0 ep
theorem compL_noexc {nx : Nat → AH → Option (Option A)} {bd : A → AH → R (Option A)} {al : Bool} : ∀ (f i : Nat) (acc : List A) (h : AH) (c : Str) (h' : AH), ((compL nx bd f i acc h).bind fun ys h6 => newL al ys h6) ≠ .exc c h'
  | 0, _, _, _, _, _ => by intro z; cases z
  | f + 1, i, acc, h, c, h' => by
    rw [compL_succ]
    split
    · intro z; cases z
    · intro z
      cases al <;> cases z
    · split
      · split
        · exact compL_noexc f _ _ _ c h'
        · intro z; cases z
      · exact compL_noexc f _ _ _ c h'
      · intro z; cases z
      · intro z; cases z
theorem un_tM {K : PySem.W.Frag} {al : Bool} {mi : ASt → AH → R MI.It} {bd : ASt → A → AH → R (Option A)} {t : L2.St} {H : Hp} {Q : VK}
    (q : tM K T ca W (fun s h => (mi s h).bind fun J h1 => if lkOk h J.lk = true then ((compL J.nx (bd s) J.most 0 [] h1).bind fun ys h6 => newL al ys h6).un J.lk else .bad) t H Q) :
    tM K T ca W (fun s h => (mi s h).bind fun J h1 => (compL J.nx (bd s) J.most 0 [] h1).bind fun ys h6 => newL al ys h6) t H (UnQ H Q) := by
  obtain ⟨r, s, h, R, S, P⟩ := q
  refine ⟨r, s, h, R, S, ?_⟩
  dsimp only at P ⊢
  cases em : mi s h with
  | bad => rw [em] at P; exact P
  | exc c h1 => rw [em] at P; exact P
  | ok J h1 =>
    rw [em] at P
    exact unR_post R (fun c h' => compL_noexc _ _ _ _ c h') P
theorem je_comp0 {elt tg iter : Expr} {ifs : List Expr} {scope : Scope} {own : List (Str × Nat)} {pos : Pos} {al : Bool} {mi : ASt → AH → R MI.It} {mg : A → ASt → AH → R ASt} {mt : ASt → AH → R (List A)} {me : ASt → AH → R A} (hc : X.calm = true) (hN : X.N.Nodup) (hi : PI X tg iter (iM X.K T ca W mi))
    (ok : BlkOk X.N X.env.scope scope own) (hg : ∀ (s : Shared) (H : Hp) (C : Addr) (cl : List (Str × Addr)) (fp : List Addr), PG (X.blk s H scope (compEnvC scope cl C X.env) fp) tg (gO X.K T ca (own.map (·.2)) mg))
    (ht : ∀ (s : Shared) (H : Hp) (C : Addr) (cl : List (Str × Addr)) (fp : List Addr), PTs (X.blk s H scope (compEnvC scope cl C X.env) fp) ifs (tsM X.K T ca W0 mt))
    (he : ∀ (s : Shared) (H : Hp) (C : Addr) (cl : List (Str × Addr)) (fp : List Addr), PE (X.blk s H scope (compEnvC scope cl C X.env) fp) elt (tM X.K T ca W0 me)) (hs : ∀ x, foldedSetIterable iter X.env x = pure x) :
    PE X (.ListComp elt [⟨tg, iter, ifs, 0⟩] scope pos) (tM X.K T ca W fun s h => (mi s h).bind fun J h1 => (compL J.nx (mTurn mg mt me s (own.map (·.2))) J.most 0 [] h1).bind fun ys h6 => newL al ys h6) := by
  refine (pe_lc hc hN hi ok (fun s H C cl fp => pg_hide (hg s H C cl fp)) (fun s H C cl fp => pts_hide (ht s H C cl fp)) (fun s H C cl fp => pe_hide (he s H C cl fp)) hs).wk fun t H Q q => ?_
  refine lc_read (W := W) (fun R z => z) (fun x t H Q z => ?_) (fun t H Q z => z) (fun t H Q z => z) q
  obtain ⟨D, acc, hD, r, s, h, a, R, S, ra, P⟩ := z
  refine ⟨D, acc, hD, r, s, h, a, R, S, ra, ?_⟩
  cases em : mg a s h with
  | bad => rw [em] at P; exact P
  | exc c h' => rw [em] at P; exact P
  | ok s2 h2 =>
    rw [em] at P
    intro r2 H2 u2 e2 R2 v2 n2
    have hw : wipe (wipe t (own.map (·.2))) (own.map (·.2)) = wipe t (own.map (·.2)) := wipe_wipe _ t
    exact ⟨v2.2.trans hw, P r2 H2 u2 e2 R2 v2.1 n2⟩
theorem je_comp {elt tg iter : Expr} {ifs : List Expr} {scope : Scope} {own : List (Str × Nat)} {pos : Pos} {al : Bool} {mi : ASt → AH → R MI.It} {mg : A → ASt → AH → R ASt} {mt : ASt → AH → R (List A)} {me : ASt → AH → R A} (hc : X.calm = true) (hN : X.N.Nodup) (hi : PI X tg iter (iM X.K T ca W mi))
    (ok : BlkOk X.N X.env.scope scope own) (hg : ∀ (s : Shared) (H : Hp) (C : Addr) (cl : List (Str × Addr)) (fp : List Addr), PG (X.blk s H scope (compEnvC scope cl C X.env) fp) tg (gO X.K T ca (own.map (·.2)) mg))
    (ht : ∀ (s : Shared) (H : Hp) (C : Addr) (cl : List (Str × Addr)) (fp : List Addr), PTs (X.blk s H scope (compEnvC scope cl C X.env) fp) ifs (tsM X.K T ca W0 mt))
    (he : ∀ (s : Shared) (H : Hp) (C : Addr) (cl : List (Str × Addr)) (fp : List Addr), PE (X.blk s H scope (compEnvC scope cl C X.env) fp) elt (tM X.K T ca W0 me)) (hs : ∀ x, foldedSetIterable iter X.env x = pure x) :
    PE X (.ListComp elt [⟨tg, iter, ifs, 0⟩] scope pos) (tM X.K T ca W fun s h => (mi s h).bind fun J h1 => if lkOk h J.lk = true then ((compL J.nx (mTurn mg mt me s (own.map (·.2))) J.most 0 [] h1).bind fun ys h6 => newL al ys h6).un J.lk else .bad) :=
  (pe_unl (je_comp0 hc hN hi ok hg ht he hs)).wk fun t H Q q => un_tM (bd := fun s => mTurn mg mt me s (own.map (·.2))) q
theorem js_setLc0 {i : Nat} {y : Str} {py spos : Pos} {elt tg iter : Expr} {ifs : List Expr} {scope : Scope} {own : List (Str × Nat)} {pos : Pos} {mi : ASt → AH → R MI.It} {mg : A → ASt → AH → R ASt} {mt : ASt → AH → R (List A)} {me : ASt → AH → R A} {al : Bool} (hc : X.calm = true) (hN : X.N.Nodup) (hy : X.N[i]? = some y) (hyl : X.env.scope.names.lookup y = some .local)
    (hsw : swapsWith (.ListComp elt [⟨tg, iter, ifs, 0⟩] scope pos) (some (.Name y py)) spos.line X.env = pure true) (hi : PI X tg iter (iM X.K T ca W mi))
    (ok : BlkOk X.N X.env.scope scope own) (hg : ∀ (s : Shared) (H : Hp) (C : Addr) (cl : List (Str × Addr)) (fp : List Addr), PG (X.blk s H scope (compEnvC scope cl C X.env) fp) tg (gO X.K T ca (own.map (·.2)) mg))
    (ht : ∀ (s : Shared) (H : Hp) (C : Addr) (cl : List (Str × Addr)) (fp : List Addr), PTs (X.blk s H scope (compEnvC scope cl C X.env) fp) ifs (tsM X.K T ca W0 mt))
    (he : ∀ (s : Shared) (H : Hp) (C : Addr) (cl : List (Str × Addr)) (fp : List Addr), PE (X.blk s H scope (compEnvC scope cl C X.env) fp) elt (tM X.K T ca W0 me)) (hs : ∀ x, foldedSetIterable iter X.env x = pure x) :
    PS X (.Assign [.Name y py] (.ListComp elt [⟨tg, iter, ifs, 0⟩] scope pos) spos) (fun D t H => tM X.K T ca W (fun s h => (mi s h).bind fun J h1 => (compL J.nx (mTurn mg mt me s (own.map (·.2))) J.most 0 [] h1).bind fun ys h6 => newL al ys h6) t H fun x H1 => D.nx (t.set i (some x)) H1) := by
  refine (ps_setLc hc hN hy hyl hsw hi ok (fun s H C cl fp => pg_hide (hg s H C cl fp)) (fun s H C cl fp => pts_hide (ht s H C cl fp)) (fun s H C cl fp => pe_hide (he s H C cl fp)) hs).wk fun D t H q => ?_
  refine lc_read (W := W) (fun R z => z) (fun x t H Q z => ?_) (fun t H Q z => z) (fun t H Q z => z) q
  obtain ⟨D, acc, hD, r, s, h, a, R, S, ra, P⟩ := z
  refine ⟨D, acc, hD, r, s, h, a, R, S, ra, ?_⟩
  cases em : mg a s h with
  | bad => rw [em] at P; exact P
  | exc c h' => rw [em] at P; exact P
  | ok s2 h2 =>
    rw [em] at P
    intro r2 H2 u2 e2 R2 v2 n2
    have hw : wipe (wipe t (own.map (·.2))) (own.map (·.2)) = wipe t (own.map (·.2)) := wipe_wipe _ t
    exact ⟨v2.2.trans hw, P r2 H2 u2 e2 R2 v2.1 n2⟩
theorem ps_unl {st : Stmt} {t : TE} {i : Nat} (h : PS X st (fun D σ H => t σ H fun x H1 => D.nx (σ.set i (some x)) H1)) : PS X st (fun D σ H => t σ H (UnQ H fun x H1 => D.nx (σ.set i (some x)) H1)) := ⟨fun pins s σ H D I hw => by
  have hw' : (fun D σ H => t σ H fun x H1 => D.nx (σ.set i (some x)) H1 : TS) ⟨fun σ' H' => D.nx σ' H' ∨ ∃ d od u, H' d = some (.frz od u) ∧ (∀ o' u', H d ≠ some (.frz o' u')) ∧ D.nx σ' (upd H' d u), fun _ _ => False, fun _ _ => False, fun _ _ => False⟩ σ H := hw
  refine thn (h.run pins s σ H _ I hw') fun f s1 q => ?_
  cases f with
  | next =>
    obtain ⟨σ', H', I2, q⟩ := q
    rcases q with q | ⟨d, od, u, e, hn, q⟩
    · exact ⟨σ', H', I2, q⟩
    · exact ⟨σ', _, I2.unlock e (fun o' u' z => hn _ _ (I.base.frzs d o' u' z)), q⟩
  | brk => obtain ⟨σ', H', I2, q⟩ := q; exact q.elim
  | cont => obtain ⟨σ', H', I2, q⟩ := q; exact q.elim
  | ret v => obtain ⟨x, σ', H', I2, r, q⟩ := q; exact q.elim⟩
theorem js_setLc {i : Nat} {y : Str} {py spos : Pos} {elt tg iter : Expr} {ifs : List Expr} {scope : Scope} {own : List (Str × Nat)} {pos : Pos} {mi : ASt → AH → R MI.It} {mg : A → ASt → AH → R ASt} {mt : ASt → AH → R (List A)} {me : ASt → AH → R A} {al : Bool} (hc : X.calm = true) (hN : X.N.Nodup) (hy : X.N[i]? = some y) (hyl : X.env.scope.names.lookup y = some .local)
    (hsw : swapsWith (.ListComp elt [⟨tg, iter, ifs, 0⟩] scope pos) (some (.Name y py)) spos.line X.env = pure true) (hi : PI X tg iter (iM X.K T ca W mi))
    (ok : BlkOk X.N X.env.scope scope own) (hg : ∀ (s : Shared) (H : Hp) (C : Addr) (cl : List (Str × Addr)) (fp : List Addr), PG (X.blk s H scope (compEnvC scope cl C X.env) fp) tg (gO X.K T ca (own.map (·.2)) mg))
    (ht : ∀ (s : Shared) (H : Hp) (C : Addr) (cl : List (Str × Addr)) (fp : List Addr), PTs (X.blk s H scope (compEnvC scope cl C X.env) fp) ifs (tsM X.K T ca W0 mt))
    (he : ∀ (s : Shared) (H : Hp) (C : Addr) (cl : List (Str × Addr)) (fp : List Addr), PE (X.blk s H scope (compEnvC scope cl C X.env) fp) elt (tM X.K T ca W0 me)) (hs : ∀ x, foldedSetIterable iter X.env x = pure x) :
    PS X (.Assign [.Name y py] (.ListComp elt [⟨tg, iter, ifs, 0⟩] scope pos) spos) (fun D t H => tM X.K T ca W (fun s h => (mi s h).bind fun J h1 => if lkOk h J.lk = true then ((compL J.nx (mTurn mg mt me s (own.map (·.2))) J.most 0 [] h1).bind fun ys h6 => newL al ys h6).un J.lk else .bad) t H fun x H1 => D.nx (t.set i (some x)) H1) :=
  (ps_unl (js_setLc0 hc hN hy hyl hsw hi ok hg ht he hs)).wk fun D t H q => un_tM (bd := fun s => mTurn mg mt me s (own.map (·.2))) q
end
end MI

namespace MI
open PySem PyProof.Rows L2
section
variable {X : Cx} {T : List (Addr × Str)} {ca : Str → Option Addr} {W : WX} {E : XK} {pos : Pos}
theorem rg_rel {K : PySem.W.Frag} {H : Hp} {r : Rho} {n : Nat} (i : Int) : ∀ xs : List Nat, RAs K H r n (xs.map fun k => A.int (i + (k : Nat))) (xs.map fun k => V.int (i + (k : Nat)))
  | [] => .nil
  | x :: xs => .cons (.int _) (rg_rel i xs)
theorem je_lrg {a b : Expr} {p p2 pos2 : Pos} {ma mb : ASt → AH → R A} (hc : X.calm = true) (hg : Gl X "list") (hm : X.mg "list" = none) (hg2 : Gl X "range") (hm2 : X.mg "range" = none) (ha : PE X a (tM X.K T ca W ma)) (hb : PE X b (tM X.K T ca W mb))
    (na : starEach [a, b] X.env = (false, eval a X.env) :: starEach [b] X.env) (nb : starEach [b] X.env = (false, eval b X.env) :: starEach [] X.env) (hp : (backTo pos2 (starEach [b] X.env)).any (·.1) = false) :
    PE X (.Call (.Name "list" p) [.Call (.Name "range" p2) [a, b] [] pos2] [] pos) (tM X.K T ca W fun s h => (ma s h).bind fun x h1 => (mb s h1).bind fun y h2 => match x, y with | .int i, .int j => R.of (lrgA i j) h2 | _, _ => .bad) := by
  refine (pe_listRg hc hg hm (prg_2 hg2 hm2 ha hb na nb hp) rfl).wk fun t H Q q => ?_
  obtain ⟨r, s, h, R, S, P⟩ := q
  refine ⟨r, s, h, R, S, P.bind (Rv := RA X.K) fun x h1 r1 H1 u1 e1 R1 v1 P1 => ⟨r1, s, h1, R1, S.ext e1, P1.bind (Rv := RA X.K) fun y h2 r2 H2 u2 e2 R2 v2 P2 => ?_⟩⟩
  cases v1 with
  | int i =>
    cases v2 with
    | int j =>
      dsimp only [lrgA] at P2
      split at P2
      · rename_i hz
        simp only [Bool.and_eq_true, decide_eq_true_eq] at hz
        refine ⟨i, j, rfl, rfl, ⟨by omega, by omega, by omega, by omega, by omega⟩, fun q hq => ?_⟩
        exact P2 r2 _ _ (Ext.new r2 _ hq) (R2.new hq) (.lst (off_new R2 hq) (rg_rel i _))
      · exact P2.elim
    | _ => exact P2.elim
  | _ => cases v2 <;> exact P2.elim
end
def flatP : List (V × V) → List V
  | [] => []
  | p :: r => p.1 :: p.2 :: flatP r
def DPs (X : Cx) (T : List (Addr × Str)) (ca : Str → Option Addr) (W : WX) (pos : Pos) (keys : List (Option Expr)) (values : List Expr) (m : ASt → AH → R (List A)) : Prop :=
  ∃ trs, PPs X pos keys values trs ∧ ∀ (t : L2.St) (H : Hp) (r : Rho) (s : ASt) (h : AH) (Q : List (V × V) → Hp → Prop), Rel X.K T ca H r h → RSt X.K H r h.length s t → Post X.K T ca (RAs X.K) (fun c d H' => W c d t H') H r h.length (m s h) (fun ws H' => ∀ ps, flatP ps = ws → Q ps H') → tPairs trs t H Q
section
variable {X : Cx} {T : List (Addr × Str)} {ca : Str → Option Addr} {W : WX} {E : XK} {pos : Pos}
theorem jd_nil : DPs X T ca W pos [] [] (fun _ h => .ok [] h) := ⟨[], pps_nil, fun t H r s h Q R S P => Post.here P R .nil [] rfl⟩
theorem jd_cons {k v : Expr} {ks : List (Option Expr)} {vs : List Expr} {mk mv : ASt → AH → R A} {m : ASt → AH → R (List A)} (hk : PE X k (tM X.K T ca W mk)) (hv : PE X v (tM X.K T ca W mv)) (hr : DPs X T ca W pos ks vs m) :
    DPs X T ca W pos (some k :: ks) (v :: vs) (fun s h => (mk s h).bind fun x h1 => ((mv s h1).bind fun y h2 => (m s h2).bind fun ys h3 => .ok (y :: ys) h3).bind fun xs h2 => .ok (x :: xs) h2) := by
  obtain ⟨trs, hp, hr⟩ := hr
  refine ⟨_, pps_cons hk hv hp, fun t H r s h Q R S P => ?_⟩
  refine ⟨r, s, h, R, S, P.bind (Rv := RA X.K) fun x h1 r1 H1 u1 e1 R1 v1 P1 => ⟨r1, s, h1, R1, S.ext e1, ?_⟩⟩
  have P1 : Post X.K T ca (RAs X.K) (fun c d H' => W c d t H') H1 r1 h1.length ((mv s h1).bind fun y h2 => (m s h2).bind fun ys h3 => .ok (x :: y :: ys) h3) (fun ws H' => ∀ ps, flatP ps = ws → Q ps H') := by
    cases em : mv s h1 with
    | bad => rw [em] at P1; exact P1
    | exc c h' => rw [em] at P1; exact P1
    | ok y h2 =>
      rw [em] at P1
      dsimp only [MI.R.bind] at P1 ⊢
      cases em2 : m s h2 with
      | bad => rw [em2] at P1; exact P1
      | exc c h' => rw [em2] at P1; exact P1
      | ok ys h3 => rw [em2] at P1; exact P1
  refine P1.bind (Rv := RA X.K) fun y h2 r2 H2 u2 e2 R2 v2 P2 => ?_
  refine hr t H2 r2 s h2 (fun ps H' => Q ((u1, u2) :: ps) H') R2 ((S.ext e1).ext e2) (P2.bind (Rv := RAs X.K) fun ys h3 r3 H3 u3 e3 R3 v3 P3 ps eps => ?_)
  exact Post.here P3 R3 (.cons ((v1.ext e2).ext e3) (.cons (v2.ext e3) v3)) ((u1, u2) :: ps) (by rw [← eps]; rfl)
theorem pairs_rel {K : PySem.W.Frag} {H : Hp} {r : Rho} {n : Nat} : ∀ (vs : List A) (kps : List (Key × A)) (ps : List (V × V)), pairsA vs = some kps → RAs K H r n vs (flatP ps) → ∃ kvs : List (Key × V), ps = kvs.map (fun kv => (kV kv.1, kv.2)) ∧ RKs K H r n kps kvs
  | [], kps, ps, h, rs => by
    cases h
    cases ps with
    | nil => exact ⟨[], rfl, .nil⟩
    | cons p r => cases rs
  | [_], kps, ps, h, rs => by cases h
  | x :: v :: vs, kps, ps, h, rs => by
    unfold pairsA at h
    split at h
    · rename_i k ek
      rw [Option.map_eq_some_iff] at h
      obtain ⟨kps', h1, h2⟩ := h
      subst h2
      cases ps with
      | nil => cases rs
      | cons p r =>
        obtain ⟨p1, p2⟩ := p
        cases rs with
        | cons a rs =>
          cases rs with
          | cons b rs =>
            obtain ⟨kvs, g1, g2⟩ := pairs_rel vs kps' r h1 rs
            have ey : p1 = kV k := ra_key a ek
            refine ⟨(k, p2) :: kvs, ?_, .cons b g2⟩
            rw [List.map_cons, g1, ey]
    · cases h
theorem mk_rel {K : PySem.W.Frag} {H : Hp} {r : Rho} {n : Nat} {kps : List (Key × A)} {kvs : List (Key × V)} (h : RKs K H r n kps kvs) : RKs K H r n (mkDic kps) (mergeK [] kvs) := by
  have go : ∀ (acc : List (Key × A)) (bcc : List (Key × V)), RKs K H r n acc bcc → RKs K H r n (kps.foldl (fun acc p => putKA p.1 p.2 acc) acc) (kvs.foldl (fun acc kv => putK acc kv.1 kv.2) bcc) := by
    induction h with
    | nil => exact fun acc bcc q => q
    | cons a b ih => exact fun acc bcc q => ih _ _ (put_rel q a)
  exact go [] [] .nil
theorem je_dic0 : PE X (.Dict [] [] pos) (tM X.K T ca W fun s h => MI.R.bind (.ok [] (h ++ [.dic false []])) fun vs h1 => dicPut h.length vs h1) := by
  refine pe_dnewK.wk fun t H Q q => ?_
  obtain ⟨r, s, h, R, S, P⟩ := q
  intro p hp
  have e : dicPut h.length [] (h ++ [.dic false []]) = .ok (.loc h.length) (h ++ [.dic false []]) := by simp [dicPut, pairsA, mkDic]
  have P : Post X.K T ca (RA X.K) (fun c d H' => W c d t H') H r h.length (dicPut h.length [] (h ++ [.dic false []])) Q := P
  rw [e] at P
  have z := P (grow r h.length p) (upd H p (.dK [])) (.ref (grow r h.length p h.length)) (by rw [List.length_append]; exact Ext.grow hp) (R.grow hp ⟨[], upd_same, .nil⟩) (.loc _ (by simp))
  rw [grow_at] at z
  exact z
theorem je_dic {keys : List (Option Expr)} {values : List Expr} {m : ASt → AH → R (List A)} (hd : DPs X T ca W pos keys values m) (hall : keys.all (·.isSome) = true) (hl : keys.length = values.length) (h0 : keys ≠ []) (h15 : keys.length ≤ 15) :
    PE X (.Dict keys values pos) (tM X.K T ca W fun s h => (m s (h ++ [.dic false []])).bind fun vs h1 => dicPut h.length vs h1) := by
  obtain ⟨trs, hp, hr⟩ := hd
  refine (pe_disp hp hall hl h0 h15).wk fun t H Q q => ?_
  obtain ⟨r, s, h, R, S, P⟩ := q
  intro p np
  have e1 : Ext H r h.length (upd H p (.dK [])) (grow r h.length p) (h ++ [AO.dic false []]).length := by rw [List.length_append]; exact Ext.grow np
  have R1 : Rel X.K T ca (upd H p (.dK [])) (grow r h.length p) (h ++ [.dic false []]) := R.grow np ⟨[], upd_same, .nil⟩
  refine hr t _ _ s _ (fun ps H2 => H2 p = some (.dK []) ∧ ∃ kvs : List (Key × V), ps = kvs.map (fun kv => (kV kv.1, kv.2)) ∧ kvs.length ≤ 15 ∧ Q (.ref p) (upd H2 p (.dK (mergeK [] kvs)))) R1 (S.ext e1)
    ((Post.step e1 P).bind (Rv := RAs X.K) fun vs h1 r2 H2 u2 e2 R2 v2 P2 ps eps => ?_)
  subst eps
  unfold dicPut at P2
  split at P2
  · rename_i kps ek
    obtain ⟨h15', P2⟩ := P2.ite
    have h15' := of_decide_eq_true h15'
    split at P2
    · rename_i el
      obtain ⟨vs0, g1, g2⟩ := R2.obj _ _ el
      cases g2
      have hlt : h.length < h1.length := (List.getElem?_eq_some_iff.mp el).1
      have er : r2 h.length = p := by rw [e2.same _ (by simp), grow_at]
      have g1' := g1
      rw [er] at g1
      obtain ⟨kvs, k1, k2⟩ := pairs_rel vs kps ps ek v2
      refine ⟨g1, kvs, k1, by rw [← rks_len' k2]; exact h15', ?_⟩
      have ep : Ext H2 r2 h1.length (upd H2 (r2 h.length) (.dK (mergeK [] kvs))) r2 h1.length := Ext.put hlt g1'
      have w := P2 r2 _ (.ref (r2 h.length)) (by rw [List.length_set]; exact ep) (R2.put hlt ⟨_, upd_same, (mk_rel k2).ext ep⟩) (.loc _ (by rw [List.length_set]; exact hlt))
      rw [er] at w
      exact w
    · exact P2.elim
  · exact P2.elim
end
section
variable (K : PySem.W.Frag) (T : List (Addr × Str)) (ca : Str → Option Addr)
def PostS (E : XK) (H : Hp) (r : Rho) (n : Nat) : F → Ends → Prop
  | .nx s' h', D => ∀ r' H' t', Ext H r n H' r' h'.length → Rel K T ca H' r' h' → RSt K H' r' h'.length s' t' → D.nx t' H'
  | .rt v h', D => ∀ r' H' u, Ext H r n H' r' h'.length → Rel K T ca H' r' h' → RA K H' r' h'.length v u → D.rt u H'
  | .bk s' h', D => ∀ r' H' t', Ext H r n H' r' h'.length → Rel K T ca H' r' h' → RSt K H' r' h'.length s' t' → D.bk t' H'
  | .ct s' h', D => ∀ r' H' t', Ext H r n H' r' h'.length → Rel K T ca H' r' h' → RSt K H' r' h'.length s' t' → D.ct t' H'
  | .exc c _ h', _ => ∀ C r' H', ca c = some C → Ext H r n H' r' h'.length → Rel K T ca H' r' h' → E (.ref C) none H'
  | .bad, _ => False
def sM (E : XK) (m : ASt → AH → F) : TS := fun D t H => ∃ (r : Rho) (s : ASt) (h : AH), Rel K T ca H r h ∧ RSt K H r h.length s t ∧ PostS K T ca E H r h.length (m s h) D
end
section
variable {K : PySem.W.Frag} {T : List (Addr × Str)} {ca : Str → Option Addr} {E : XK} {H : Hp} {r : Rho} {n : Nat}
theorem PostS.step {x : F} {D : Ends} {H' : Hp} {r' : Rho} {n' : Nat} (e : Ext H r n H' r' n') (p : PostS K T ca E H r n x D) : PostS K T ca E H' r' n' x D := by
  cases x with
  | bad => exact p
  | nx s h => exact fun r2 H2 t2 e2 R2 S2 => p r2 H2 t2 (e.trans e2) R2 S2
  | rt s h => exact fun r2 H2 t2 e2 R2 S2 => p r2 H2 t2 (e.trans e2) R2 S2
  | bk s h => exact fun r2 H2 t2 e2 R2 S2 => p r2 H2 t2 (e.trans e2) R2 S2
  | ct s h => exact fun r2 H2 t2 e2 R2 S2 => p r2 H2 t2 (e.trans e2) R2 S2
  | exc c s h => exact fun C r2 H2 hc e2 R2 => p C r2 H2 hc (e.trans e2) R2
theorem PostS.toF {α β : Type} {Rv : Hp → Rho → Nat → α → β → Prop} {x : R α} {s : ASt} {k : α → AH → F} {D : Ends} {Q' : β → Hp → Prop} (p : PostS K T ca E H r n (x.toF s k) D)
    (hq : ∀ v h' r' H' u, Ext H r n H' r' h'.length → Rel K T ca H' r' h' → Rv H' r' h'.length v u → PostS K T ca E H' r' h'.length (k v h') D → Q' u H') : Post K T ca Rv E H r n x Q' := by
  cases x with
  | bad => exact p
  | exc c h' => exact p
  | ok v h' => exact fun r' H' u e R rv => hq v h' r' H' u e R rv (PostS.step e p)
end
section
variable {X : Cx} {T : List (Addr × Str)} {ca : Str → Option Addr} {E : XK} {pos : Pos}
theorem js_nil : PSs X [] (sM X.K T ca E fun s h => .nx s h) := pss_nil.wk fun D t H q => by
  obtain ⟨r, s, h, R, S, P⟩ := q
  exact P r H t (Ext.refl _ _ _) R S
theorem js_cons {st : Stmt} {rest : List Stmt} {m ms : ASt → AH → F} (h1 : PS X st (sM X.K T ca E m)) (h2 : PSs X rest (sM X.K T ca E ms)) : PSs X (st :: rest) (sM X.K T ca E fun s h => (m s h).seq fun s1 h1 => ms s1 h1) := by
  refine (pss_cons h1 h2).wk fun D t H q => ?_
  obtain ⟨r, s, h, R, S, P⟩ := q
  refine ⟨r, s, h, R, S, ?_⟩
  have P : PostS X.K T ca E H r h.length ((m s h).seq fun s1 h1 => ms s1 h1) D := P
  cases em : m s h with
  | bad => rw [em] at P; exact P
  | nx s1 h1 =>
    rw [em] at P
    exact fun r1 H1 t1 e1 R1 S1 => ⟨r1, s1, h1, R1, S1, PostS.step e1 P⟩
  | rt s1 h1 => rw [em] at P; exact P
  | bk s1 h1 => rw [em] at P; exact P
  | ct s1 h1 => rw [em] at P; exact P
  | exc c s1 h1 => rw [em] at P; exact P
theorem js_pas : PS X (.Pass pos) (sM X.K T ca E fun s h => .nx s h) := ps_pass.wk fun D t H q => by
  obtain ⟨r, s, h, R, S, P⟩ := q
  exact P r H t (Ext.refl _ _ _) R S
theorem js_brk : PS X (.Break pos) (sM X.K T ca E fun s h => .bk s h) := ps_break.wk fun D t H q => by
  obtain ⟨r, s, h, R, S, P⟩ := q
  exact P r H t (Ext.refl _ _ _) R S
theorem js_cnt : PS X (.Continue pos) (sM X.K T ca E fun s h => .ct s h) := ps_continue.wk fun D t H q => by
  obtain ⟨r, s, h, R, S, P⟩ := q
  exact P r H t (Ext.refl _ _ _) R S
theorem js_ret0 : PS X (.Return none pos) (sM X.K T ca E fun _ h => .rt .non h) := ps_retN.wk fun D t H q => by
  obtain ⟨r, s, h, R, S, P⟩ := q
  exact P r H .non (Ext.refl _ _ _) R .non
theorem js_exp {e : Expr} {m : ASt → AH → R A} (he : PE X e (tM X.K T ca (cW E) m)) (hs : swapsWith e none pos.line X.env = pure false) : PS X (.Expr e pos) (sM X.K T ca E fun s h => (m s h).toF s fun _ h1 => .nx s h1) := (ps_expr he hs).wk fun D t H q => by
  obtain ⟨r, s, h, R, S, P⟩ := q
  exact ⟨r, s, h, R, S, P.toF (Rv := RA X.K) fun v h1 r1 H1 u1 e1 R1 v1 P1 => P1 r1 H1 t (Ext.refl _ _ _) R1 (S.ext e1)⟩
theorem js_ret {e : Expr} {m : ASt → AH → R A} (he : PE X e (tM X.K T ca (cW E) m)) : PS X (.Return (some e) pos) (sM X.K T ca E fun s h => (m s h).toF s fun v h1 => .rt v h1) := (ps_ret he).wk fun D t H q => by
  obtain ⟨r, s, h, R, S, P⟩ := q
  exact ⟨r, s, h, R, S, P.toF (Rv := RA X.K) fun v h1 r1 H1 u1 e1 R1 v1 P1 => P1 r1 H1 u1 (Ext.refl _ _ _) R1 v1⟩
theorem PostS.test {K : PySem.W.Frag} {H : Hp} {r : Rho} {n : Nat} {x : R A} {s : ASt} {fa fb : AH → F} {D : Ends} {Q : Bool → Hp → Prop} (P : PostS K T ca E H r n (x.toF s fun v h1 => match v with
      | .bl true => fa h1
      | .bl false => fb h1
      | _ => .bad) D) (hq : ∀ (b : Bool) h' r' H', Ext H r n H' r' h'.length → Rel K T ca H' r' h' → PostS K T ca E H' r' h'.length (if b = true then fa h' else fb h') D → Q b H') :
    Post K T ca RBool E H r n (x.bind fun v h1 => match v with | .bl b => .ok (.bl b) h1 | _ => .bad) Q := by
  cases x with
  | bad => exact P
  | exc c h => exact P
  | ok v h =>
    cases v with
    | bl k =>
      intro r1 H1 b e1 R1 eb
      cases eb
      refine hq k h r1 H1 e1 R1 (PostS.step e1 ?_)
      cases k with
      | true => rw [if_pos rfl]; exact P
      | false => rw [if_neg Bool.false_ne_true]; exact P
    | _ => exact P.elim
theorem js_if {c : Expr} {a b : List Stmt} {mc : ASt → AH → R A} {ma mb : ASt → AH → F} (hc : PT X c (bM X.K T ca (cW E) mc)) (ha : PSs X a (sM X.K T ca E ma)) (hb : PSs X b (sM X.K T ca E mb)) :
    PS X (.If c a b pos) (sM X.K T ca E fun s h => (mc s h).toF s fun v h1 => match v with
      | .bl true => ma s h1
      | .bl false => mb s h1
      | _ => .bad) := by
  refine (ps_if hc ha hb).wk fun D t H q => ?_
  obtain ⟨r, s, h, R, S, P⟩ := q
  refine ⟨r, s, h, R, S, PostS.test (fa := fun h1 => ma s h1) (fb := fun h1 => mb s h1) P fun b h1 r1 H1 e1 R1 P1 => ?_⟩
  cases b with
  | true =>
    rw [if_pos rfl] at P1
    exact iteT ⟨r1, s, h1, R1, S.ext e1, P1⟩
  | false =>
    rw [if_neg Bool.false_ne_true] at P1
    exact iteF ⟨r1, s, h1, R1, S.ext e1, P1⟩
theorem js_for0 {tg iter : Expr} {body : List Stmt} {mi : ASt → AH → R MI.It} {mg : A → ASt → AH → R ASt} {mb : ASt → AH → F} (hp : PassesOwn (model X.prog X.w) X.A X.env X.xe) (hc : X.calm = true) (hi : PI X tg iter (iM X.K T ca (cW E) mi)) (hg : PG X tg (gM X.K T ca (cW E) mg)) (hb : PSs X body (sM X.K T ca E mb))
    (hs : ∀ x, foldedSetIterable iter X.env x = pure x) : PS X (.For tg iter body [] pos) (sM X.K T ca E fun s h => (mi s h).toF s fun J h1 => forL J.nx (fun x s2 h2 => (mg x s2 h2).toF s2 fun s3 h3 => mb s3 h3) J.most 0 s h1) := by
  refine (ps_for hp hc hi hg hb hs).wk fun D t H q => ?_
  obtain ⟨r, s, h, R, S, P⟩ := q
  refine ⟨r, s, h, R, S, P.toF (Rv := RIt X.K T ca) fun j h1 r1 H1 J e1 R1 v1 P1 => ?_⟩
  refine ⟨fun i m tc Hc => ∃ (r2 : Rho) (h2 : AH) (s2 : ASt), Ext H1 r1 h1.length Hc r2 h2.length ∧ Rel X.K T ca Hc r2 h2 ∧ RSt X.K Hc r2 h2.length s2 tc ∧
      PostS X.K T ca E Hc r2 h2.length (forL j.nx (fun x s2 h2 => (mg x s2 h2).toF s2 fun s3 h3 => mb s3 h3) m i s2 h2) D, ⟨j.most, r1, h1, s, Ext.refl _ _ _, R1, S.ext e1, P1⟩, ?_⟩
  rintro i m tc Hc ⟨r2, h2, s2, e2, R2, S2, P2⟩
  cases m with
  | zero => exact P2.elim
  | succ m =>
    simp only [forL] at P2
    obtain ⟨st, yl⟩ := v1 Hc Hc r2 h2 i e2 R2 fun _ _ z => z
    cases en : j.nx i h2 with
    | none => rw [en] at P2; exact P2.elim
    | some ox =>
      rw [en] at P2
      cases ox with
      | none => exact .inl ⟨st en, P2 r2 Hc tc (Ext.refl _ _ _) R2 S2⟩
      | some x =>
        obtain ⟨go, yl⟩ := yl x en
        refine .inr ⟨go, _, fun t' H' w => ⟨m, Nat.lt_succ_self m, w⟩, fun u H' y => ?_⟩
        obtain ⟨Hs', e3, R3, rx, hh⟩ := yl u H' y
        have hs : Hs' = H' := by
          rcases hh with ⟨a1, a2⟩ | ⟨q, o, a1, a2, a3⟩
          · rw [a1, a2]
          · rw [a2, a3]
        subst hs
        refine ⟨r2, s2, h2, x, R3, S2.ext e3, rx, ?_⟩
        have P2 := PostS.step e3 P2
        dsimp only at P2
        cases eg : mg x s2 h2 with
        | bad => rw [eg] at P2; exact P2
        | exc c hx => rw [eg] at P2; exact P2
        | ok s3 h3 =>
          rw [eg] at P2
          intro r4 H4 t4 e4 R4 S4
          have P2 := PostS.step e4 P2
          refine ⟨r4, s3, h3, R4, S4, ?_⟩
          dsimp only [MI.R.toF] at P2
          have e5 := (e2.trans e3).trans e4
          cases eb : mb s3 h3 with
          | bad => rw [eb] at P2; exact P2
          | nx s5 h5 =>
            rw [eb] at P2
            exact fun r6 H6 t6 e6 R6 S6 => ⟨r6, h5, s5, e5.trans e6, R6, S6, PostS.step e6 P2⟩
          | ct s5 h5 =>
            rw [eb] at P2
            exact fun r6 H6 t6 e6 R6 S6 => ⟨r6, h5, s5, e5.trans e6, R6, S6, PostS.step e6 P2⟩
          | bk s5 h5 =>
            rw [eb] at P2
            exact fun r6 H6 t6 e6 R6 S6 => P2 r6 H6 t6 e6 R6 S6
          | rt v h5 => rw [eb] at P2; exact P2
          | exc c s5 h5 => rw [eb] at P2; exact P2
def UnX (H : Hp) (E : XK) : XK := fun c d H' => E c d H' ∨ ∃ a od u, H' a = some (.frz od u) ∧ (∀ o' u', H a ≠ some (.frz o' u')) ∧ E c d (upd H' a u)
def UnD (H : Hp) (D : Ends) : Ends := ⟨UnQ H D.nx, UnQ H D.rt, UnQ H D.bk, UnQ H D.ct⟩
theorem takes_unl {pins : List (Addr × Obj)} {σ : L2.St} {H : Hp} {s : Shared} (I : Inv X pins σ H s) (tk : L2N.Takes X (cW E)) : L2N.Takes X (cW (UnX H E)) := fun u s' ⟨a, B, sI, pins, σ', H', cls, d, e, I', nb, up, sky, na, os, ag, w⟩ => by
  rcases w with w | ⟨b, od, v, eb, hn, w⟩
  · exact tk u s' ⟨a, B, sI, pins, σ', H', cls, d, e, I', nb, up, sky, na, os, ag, w⟩
  · refine tk u s' ⟨a, B, sI, pins, σ', upd H' b v, cls, d, e, I'.unlock eb (fun o' u' z => hn _ _ (I.base.frzs b o' u' z)), nb, up, sky, ?_, os, ag, w⟩
    rw [upd_ne (fun z => by rw [z, eb] at na; cases na)]
    exact na
theorem unF_post {K : PySem.W.Frag} {H : Hp} {r : Rho} {h : AH} {raw : F} {lk : Option Nat} {D : Ends} (R : Rel K T ca H r h) (P : PostS K T ca E H r h.length (if lkOk h lk = true then raw.un lk else .bad) D) : PostS K T ca (UnX H E) H r h.length raw (UnD H D) := by
  cases hk : lkOk h lk with
  | false => rw [hk] at P; exact P.elim
  | true =>
    rw [hk, if_pos rfl] at P
    cases lk with
    | none =>
      cases raw with
      | bad => exact P
      | nx s' h' => exact fun r' H' u e R' rv => .inl (P r' H' u e R' rv)
      | rt s' h' => exact fun r' H' u e R' rv => .inl (P r' H' u e R' rv)
      | bk s' h' => exact fun r' H' u e R' rv => .inl (P r' H' u e R' rv)
      | ct s' h' => exact fun r' H' u e R' rv => .inl (P r' H' u e R' rv)
      | exc c s' h' => exact fun C r' H' hc e R' => .inl (P C r' H' hc e R')
    | some l =>
      have look : ∀ h' : AH, unlk h' (some l) = none ∨ ∃ kvs, h'[l]? = some (.dic true kvs) ∧ unlk h' (some l) = some (h'.set l (.dic false kvs)) := fun h' => by
        dsimp only [unlk]
        split
        · rename_i kvs ek
          exact .inr ⟨kvs, ek, rfl⟩
        · exact .inl rfl
      cases raw with
      | bad => exact P
      | nx s' h' =>
        rcases look h' with g | ⟨kvs, el, g⟩ <;> simp only [MI.F.un, g] at P
        · exact P.elim
        · intro r' H' u e R' rv
          obtain ⟨o, vs, q, hn, ep, e2, R2⟩ := unl_ext R hk e R' el
          exact .inr ⟨r' l, o, .dK vs, q, hn, P r' _ u e2 R2 (by rw [List.length_set]; exact rv.ext0 ep)⟩
      | rt s' h' =>
        rcases look h' with g | ⟨kvs, el, g⟩ <;> simp only [MI.F.un, g] at P
        · exact P.elim
        · intro r' H' u e R' rv
          obtain ⟨o, vs, q, hn, ep, e2, R2⟩ := unl_ext R hk e R' el
          exact .inr ⟨r' l, o, .dK vs, q, hn, P r' _ u e2 R2 (by rw [List.length_set]; exact rv.ext0 ep)⟩
      | bk s' h' =>
        rcases look h' with g | ⟨kvs, el, g⟩ <;> simp only [MI.F.un, g] at P
        · exact P.elim
        · intro r' H' u e R' rv
          obtain ⟨o, vs, q, hn, ep, e2, R2⟩ := unl_ext R hk e R' el
          exact .inr ⟨r' l, o, .dK vs, q, hn, P r' _ u e2 R2 (by rw [List.length_set]; exact rv.ext0 ep)⟩
      | ct s' h' =>
        rcases look h' with g | ⟨kvs, el, g⟩ <;> simp only [MI.F.un, g] at P
        · exact P.elim
        · intro r' H' u e R' rv
          obtain ⟨o, vs, q, hn, ep, e2, R2⟩ := unl_ext R hk e R' el
          exact .inr ⟨r' l, o, .dK vs, q, hn, P r' _ u e2 R2 (by rw [List.length_set]; exact rv.ext0 ep)⟩
      | exc c s' h' =>
        rcases look h' with g | ⟨kvs, el, g⟩ <;> simp only [MI.F.un, g] at P
        · exact P.elim
        · intro C r' H' hc e R'
          obtain ⟨o, vs, q, hn, ep, e2, R2⟩ := unl_ext R hk e R' el
          exact .inr ⟨r' l, o, .dK vs, q, hn, P C r' _ hc e2 R2⟩
theorem js_unl {st : Stmt} {mi : ASt → AH → R MI.It} {body : MI.It → ASt → AH → F} (h : ∀ E1, L2N.Takes X (cW E1) → PS X st (sM X.K T ca E1 fun s h => (mi s h).toF s fun J h1 => body J s h1)) (tk : L2N.Takes X (cW E)) :
    PS X st (sM X.K T ca E fun s h => (mi s h).toF s fun J h1 => if lkOk h J.lk = true then (body J s h1).un J.lk else .bad) := by
  refine ⟨fun pins s σ H D I hw => ?_⟩
  have hw' : sM X.K T ca (UnX H E) (fun s h => (mi s h).toF s fun J h1 => body J s h1) (UnD H D) σ H := by
    obtain ⟨r, s, h, R, S, P⟩ := hw
    refine ⟨r, s, h, R, S, ?_⟩
    dsimp only at P ⊢
    cases em : mi s h with
    | bad => rw [em] at P; exact P
    | exc c h1 => rw [em] at P; exact fun C r' H' hc e R' => .inl (P C r' H' hc e R')
    | ok J h1 =>
      rw [em] at P
      exact unF_post R P
  have un : ∀ {β : Type} {Q : β → Hp → Prop} {v : β} {H' : Hp} {σ' : L2.St} {s1 : Shared}, Inv X pins σ' H' s1 → UnQ H Q v H' → ∃ H2, Inv X pins σ' H2 s1 ∧ Q v H2 := fun I2 q => by
    rcases q with q | ⟨d, od, u, e, hn, q⟩
    · exact ⟨_, I2, q⟩
    · exact ⟨_, I2.unlock e (fun o' u' z => hn _ _ (I.base.frzs d o' u' z)), q⟩
  refine thn ((h (UnX H E) (takes_unl I tk)).run pins s σ H _ I hw') fun f s1 q => ?_
  cases f with
  | next =>
    obtain ⟨σ', H', I2, q⟩ := q
    obtain ⟨H2, I3, q⟩ := un I2 q
    exact ⟨σ', H2, I3, q⟩
  | brk =>
    obtain ⟨σ', H', I2, q⟩ := q
    obtain ⟨H2, I3, q⟩ := un I2 q
    exact ⟨σ', H2, I3, q⟩
  | cont =>
    obtain ⟨σ', H', I2, q⟩ := q
    obtain ⟨H2, I3, q⟩ := un I2 q
    exact ⟨σ', H2, I3, q⟩
  | ret v =>
    obtain ⟨x, σ', H', I2, r, q⟩ := q
    obtain ⟨H2, I3, q⟩ := un I2 q
    exact ⟨x, σ', H2, I3, r, q⟩
theorem js_for {tg iter : Expr} {body : List Stmt} {mi : ASt → AH → R MI.It} {mg : A → ASt → AH → R ASt} {mb : ASt → AH → F} (hp : PassesOwn (model X.prog X.w) X.A X.env X.xe) (hc : X.calm = true) (tk : L2N.Takes X (cW E)) (hi : ∀ E1, L2N.Takes X (cW E1) → PI X tg iter (iM X.K T ca (cW E1) mi)) (hg : ∀ E1, L2N.Takes X (cW E1) → PG X tg (gM X.K T ca (cW E1) mg)) (hb : ∀ E1, L2N.Takes X (cW E1) → PSs X body (sM X.K T ca E1 mb))
    (hs : ∀ x, foldedSetIterable iter X.env x = pure x) : PS X (.For tg iter body [] pos) (sM X.K T ca E fun s h => (mi s h).toF s fun J h1 => if lkOk h J.lk = true then (forL J.nx (fun x s2 h2 => (mg x s2 h2).toF s2 fun s3 h3 => mb s3 h3) J.most 0 s h1).un J.lk else .bad) :=
  js_unl (body := fun J s h1 => forL J.nx (fun x s2 h2 => (mg x s2 h2).toF s2 fun s3 h3 => mb s3 h3) J.most 0 s h1) (fun E1 t1 => js_for0 hp hc (hi E1 t1) (hg E1 t1) (hb E1 t1) hs) tk
theorem js_wh {c : Expr} {body : List Stmt} {mc : ASt → AH → R A} {mb : ASt → AH → F} {fu : Nat} (hp : PassesOwn (model X.prog X.w) X.A X.env X.xe) (hc : PT X c (bM X.K T ca (cW E) mc)) (hb : PSs X body (sM X.K T ca E mb)) :
    PS X (.While c body [] pos) (sM X.K T ca E fun s h => whileL (fun s2 h2 => mc s2 h2) (fun s2 h2 => mb s2 h2) fu s h) := by
  refine (ps_while hp hc hb).wk fun D t H q => ?_
  obtain ⟨r, s, h, R, S, P⟩ := q
  refine ⟨fun m tc Hc => ∃ (r2 : Rho) (h2 : AH) (s2 : ASt), Rel X.K T ca Hc r2 h2 ∧ RSt X.K Hc r2 h2.length s2 tc ∧ PostS X.K T ca E Hc r2 h2.length (whileL (fun s2 h2 => mc s2 h2) (fun s2 h2 => mb s2 h2) m s2 h2) D, ⟨fu, r, h, s, R, S, P⟩, ?_⟩
  rintro m tc Hc ⟨r2, h2, s2, R2, S2, P2⟩
  cases m with
  | zero => exact P2.elim
  | succ m =>
    simp only [whileL] at P2
    refine ⟨r2, s2, h2, R2, S2, ?_⟩
    cases em : mc s2 h2 with
    | bad => rw [em] at P2; exact P2
    | exc e h3 => rw [em] at P2; exact P2
    | ok v h3 =>
      rw [em] at P2
      cases v with
      | bl k =>
        intro r3 H3 b e3 R3 hb
        cases hb
        have P2 := PostS.step e3 P2
        cases k with
        | false => exact iteF (P2 r3 H3 tc (Ext.refl _ _ _) R3 (S2.ext e3))
        | true =>
          refine iteT ⟨_, fun t' H' w => ⟨m, Nat.lt_succ_self m, w⟩, r3, s2, h3, R3, S2.ext e3, ?_⟩
          dsimp only at P2
          cases eb : mb s2 h3 with
          | bad => rw [eb] at P2; exact P2
          | nx s5 h5 =>
            rw [eb] at P2
            exact fun r6 H6 t6 e6 R6 S6 => ⟨r6, h5, s5, R6, S6, PostS.step e6 P2⟩
          | ct s5 h5 =>
            rw [eb] at P2
            exact fun r6 H6 t6 e6 R6 S6 => ⟨r6, h5, s5, R6, S6, PostS.step e6 P2⟩
          | bk s5 h5 =>
            rw [eb] at P2
            exact fun r6 H6 t6 e6 R6 S6 => P2 r6 H6 t6 e6 R6 S6
          | rt v h5 => rw [eb] at P2; exact P2
          | exc c s5 h5 => rw [eb] at P2; exact P2
      | _ => exact P2.elim
theorem js_asg {tg e : Expr} {m : ASt → AH → R A} {g : A → ASt → AH → R ASt} (he : PE X e (tM X.K T ca (cW E) m)) (hg : PG X tg (gM X.K T ca (cW E) g)) (hs : swapsWithSole [tg] e pos.line X.env = pure false) (hw : swappedStores [tg] e X.env = pure none) (h1 : (assignEach [tg] X.env).map (·.2) = [assign tg X.env]) :
    PS X (.Assign [tg] e pos) (sM X.K T ca E fun s h => (m s h).toF s fun v h1 => (g v s h1).toF s fun s1 h2 => .nx s1 h2) := by
  refine (ps_asg he hg hs hw h1).wk fun D t H q => ?_
  obtain ⟨r, s, h, R, S, P⟩ := q
  refine ⟨r, s, h, R, S, P.toF (Rv := RA X.K) fun v h1 r1 H1 u1 e1 R1 v1 P1 => ⟨r1, s, h1, v, R1, S.ext e1, v1, P1.toF (Rv := RSt X.K) fun s2 h2 r2 H2 u2 e2 R2 v2 P2 => ?_⟩⟩
  exact P2 r2 H2 u2 (Ext.refl _ _ _) R2 v2
theorem js_set {i : Nat} {x : Str} {e : Expr} {pos' : Pos} {m : ASt → AH → R A} (hN : X.N.Nodup) (hi : X.N[i]? = some x) (hx : Loc X.env.scope x) (he : PE X e (tM X.K T ca (cW E) m)) (hs : swapsWith e (some (.Name x pos')) pos.line X.env = pure false) (hf : X.fn x = true ∨ X.env.scope.names.lookup x = some .local) :
    PS X (.Assign [.Name x pos'] e pos) (sM X.K T ca E fun s h => (m s h).toF s fun v h1 => MI.R.toF s (.ok (s.set i (some v)) h1) fun s1 h2 => .nx s1 h2) := by
  refine (ps_set hN hi hx he hs hf).wk fun D t H q => ?_
  obtain ⟨r, s, h, R, S, P⟩ := q
  exact ⟨r, s, h, R, S, P.toF (Rv := RA X.K) fun v h1 r1 H1 u1 e1 R1 v1 P1 => P1 r1 H1 _ (Ext.refl _ _ _) R1 ((S.ext e1).set i v1)⟩
theorem js_lc {i : Nat} {y : Str} {py : Pos} {e : Expr} {m : ASt → AH → R A} (h : PS X (.Assign [.Name y py] e pos) (fun D t H => tM X.K T ca (cW E) m t H fun x H1 => D.nx (t.set i (some x)) H1)) :
    PS X (.Assign [.Name y py] e pos) (sM X.K T ca E fun s h => (m s h).toF s fun v h1 => MI.R.toF s (.ok (s.set i (some v)) h1) fun s1 h2 => .nx s1 h2) := h.wk fun D t H q => by
  obtain ⟨r, s, h, R, S, P⟩ := q
  exact ⟨r, s, h, R, S, P.toF (Rv := RA X.K) fun v h1 r1 H1 u1 e1 R1 v1 P1 => P1 r1 H1 _ (Ext.refl _ _ _) R1 ((S.ext e1).set i v1)⟩
theorem js_fld {o value : Expr} {f : Str} {pos' : Pos} {mo m : ASt → AH → R A} {Pg : Prog} (C : ClsOk X.K ca Pg) (ho : PE X o (tM X.K T ca (cW E) mo)) (hv : PE X value (tM X.K T ca (cW E) m)) (hs : swapsWith value (some (.Attribute o f pos')) pos.line X.env = pure false) :
    PS X (.Assign [.Attribute o f pos'] value pos) (sM X.K T ca E fun s h => (m s h).toF s fun v h1 => ((mo s h1).bind fun x h1 => match x with
      | .loc l => match h1[l]? with
        | some (.ins c fs) => match Pg.cls.lookup c with
          | some ci => if ci.attrs.contains f && decide (fs.length < 500) then .ok s (h1.set l (.ins c (putFA f v fs))) else .bad
          | none => .bad
        | _ => .bad
      | _ => .bad).toF s fun s1 h2 => .nx s1 h2) := by
  refine (ps_fld ho hv hs).wk fun D t H q => ?_
  obtain ⟨r, s, h, R, S, P⟩ := q
  refine ⟨r, s, h, R, S, P.toF (Rv := RA X.K) fun v h1 r1 H1 u1 e1 R1 v1 P1 => ⟨r1, s, h1, R1, S.ext e1, ?_⟩⟩
  have P1 : Post X.K T ca (RSt X.K) E H1 r1 h1.length ((mo s h1).bind fun x h1 => match x with
      | .loc l => match h1[l]? with
        | some (.ins c fs) => match Pg.cls.lookup c with
          | some ci => if ci.attrs.contains f && decide (fs.length < 500) then MI.R.ok s (h1.set l (.ins c (putFA f v fs))) else .bad
          | none => .bad
        | _ => .bad
      | _ => .bad) (fun t' H' => D.nx t' H') := PostS.toF (Rv := RSt X.K) P1 fun s2 h2 r2 H2 u2 e2 R2 v2 P2 => P2 r2 H2 u2 (Ext.refl _ _ _) R2 v2
  refine P1.bind (Rv := RA X.K) fun x h2 r2 H2 u2 e2 R2 v2 P2 => ?_
  cases v2 with
  | loc l hl =>
    dsimp only at P2
    split at P2
    · rename_i c fs ef
      split at P2
      · rename_i ci ec
        obtain ⟨ha, P2⟩ := P2.ite
        simp only [Bool.and_eq_true, decide_eq_true_eq] at ha
        obtain ⟨C', dx, vs, q1, q2, q3⟩ := R2.obj l _ ef
        obtain ⟨C2, g1, g2⟩ := C.cl c ci ec
        rw [q1] at g1
        cases g1
        have hl2 : l < h2.length := (List.getElem?_eq_some_iff.mp ef).1
        have ep : Ext H2 r2 h2.length (upd H2 (r2 l) (.ins C' dx (putF f u1 vs))) r2 h2.length := Ext.put hl2 q2
        refine ⟨r2 l, C', dx, vs, rfl, q2, g2, C.at_ c ci f C' ec ha.1 q1, by rw [← rks_len q3]; omega, ?_⟩
        refine P2 r2 _ t (by rw [List.length_set]; exact ep) (R2.put hl2 ⟨C', dx, _, q1, upd_same, (rks_putF q3 (v1.ext e2)).ext ep⟩) ?_
        rw [List.length_set]
        exact ((S.ext e1).ext e2).ext ep
      · exact P2.elim
    · exact P2.elim
  | _ => exact P2.elim
theorem js_par {i j : Nat} {x y : Str} {a b : Expr} {px py pt : Pos} {kt k2 : Nat} {pt2 : Pos} {ms : ASt → AH → R (List A)} (hc : X.calm = true) (hN : X.N.Nodup) (hi : X.N[i]? = some x) (hj : X.N[j]? = some y) (hij : i ≠ j) (hx : X.env.scope.names.lookup x = some .local) (hy : X.env.scope.names.lookup y = some .local) (ha : PA X [a, b] (aM X.K T ca (cW E) ms))
    (hw : swappedStores [.Tuple [.Name x px, .Name y py] kt pt] (.Tuple [a, b] k2 pt2) X.env = pure (some [x, y])) (hs : swapsWithSole [.Tuple [.Name x px, .Name y py] kt pt] (.Tuple [a, b] k2 pt2) pos.line X.env = pure false) :
    PS X (.Assign [.Tuple [.Name x px, .Name y py] kt pt] (.Tuple [a, b] k2 pt2) pos) (sM X.K T ca E fun s h => ((ms s h).bind fun vs h1 => if small vs.length then MI.R.ok (A.tup vs) h1 else .bad).toF s fun v h1 => (match v with
      | A.tup vs => if vs.length = 2 then (match vs with
        | v :: r => MI.R.bind (.ok (s.set i (some v)) h1) fun s1 h1 => match r with
          | v :: r => MI.R.bind (.ok (s1.set j (some v)) h1) fun s2 h2 => match r with
            | [] => .ok s2 h2
            | _ => .bad
          | [] => .bad
        | [] => .bad) else .bad
      | _ => .bad).toF s fun s1 h2 => .nx s1 h2) := by
  refine (ps_par hc hN hi hj hij hx hy ha hw hs).wk fun D t H q => ?_
  obtain ⟨r, s, h, R, S, P⟩ := q
  refine ⟨r, s, h, R, S, ?_⟩
  dsimp only at P
  cases em : ms s h with
  | bad => rw [em] at P; exact P
  | exc c h1 => rw [em] at P; exact P
  | ok vs h1 =>
    rw [em] at P
    intro r1 H1 us e1 R1 rv
    have P := PostS.step e1 P
    dsimp only [MI.R.bind] at P
    cases hz : small vs.length with
    | false => rw [hz] at P; exact P.elim
    | true =>
      rw [hz] at P
      cases rv with
      | nil => exact P.elim
      | cons a b =>
        cases b with
        | nil => exact P.elim
        | cons a2 b =>
          cases b with
          | cons _ _ => exact P.elim
          | nil => exact ⟨_, _, rfl, P r1 H1 _ (Ext.refl _ _ _) R1 (((S.ext e1).set i a).set j a2)⟩
theorem js_par3 {i j l : Nat} {x y z : Str} {a b c : Expr} {px py pz pt : Pos} {kt k2 : Nat} {pt2 : Pos} {ms : ASt → AH → R (List A)} (hc : X.calm = true) (hN : X.N.Nodup) (hi : X.N[i]? = some x) (hj : X.N[j]? = some y) (hl : X.N[l]? = some z) (hij : i ≠ j) (hil : i ≠ l) (hjl : j ≠ l)
    (hx : X.env.scope.names.lookup x = some .local) (hy : X.env.scope.names.lookup y = some .local) (hz : X.env.scope.names.lookup z = some .local) (ha : PA X [a, b, c] (aM X.K T ca (cW E) ms))
    (hw : swappedStores [.Tuple [.Name x px, .Name y py, .Name z pz] kt pt] (.Tuple [a, b, c] k2 pt2) X.env = pure (some [x, y, z])) (hs : swapsWithSole [.Tuple [.Name x px, .Name y py, .Name z pz] kt pt] (.Tuple [a, b, c] k2 pt2) pos.line X.env = pure false) :
    PS X (.Assign [.Tuple [.Name x px, .Name y py, .Name z pz] kt pt] (.Tuple [a, b, c] k2 pt2) pos) (sM X.K T ca E fun s h => ((ms s h).bind fun vs h1 => if small vs.length then MI.R.ok (A.tup vs) h1 else .bad).toF s fun v h1 => (match v with
      | A.tup vs => if vs.length = 3 then (match vs with
        | v :: r => MI.R.bind (.ok (s.set i (some v)) h1) fun s1 h1 => match r with
          | v :: r => MI.R.bind (.ok (s1.set j (some v)) h1) fun s1 h1 => match r with
            | v :: r => MI.R.bind (.ok (s1.set l (some v)) h1) fun s2 h2 => match r with
              | [] => .ok s2 h2
              | _ => .bad
            | [] => .bad
          | [] => .bad
        | [] => .bad) else .bad
      | _ => .bad).toF s fun s1 h2 => .nx s1 h2) := by
  refine (ps_par3 hc hN hi hj hl hij hil hjl hx hy hz ha hw hs).wk fun D t H q => ?_
  obtain ⟨r, s, h, R, S, P⟩ := q
  refine ⟨r, s, h, R, S, ?_⟩
  dsimp only at P
  cases em : ms s h with
  | bad => rw [em] at P; exact P
  | exc c h1 => rw [em] at P; exact P
  | ok vs h1 =>
    rw [em] at P
    intro r1 H1 us e1 R1 rv
    have P := PostS.step e1 P
    dsimp only [MI.R.bind] at P
    cases hz : small vs.length with
    | false => rw [hz] at P; exact P.elim
    | true =>
      rw [hz] at P
      cases rv with
      | nil => exact P.elim
      | cons a b =>
        cases b with
        | nil => exact P.elim
        | cons a2 b =>
          cases b with
          | nil => exact P.elim
          | cons a3 b =>
            cases b with
            | cons _ _ => exact P.elim
            | nil => exact ⟨_, _, _, rfl, P r1 H1 _ (Ext.refl _ _ _) R1 ((((S.ext e1).set i a).set j a2).set l a3)⟩
theorem js_rai {x c m : Str} {C : Addr} {j : Nat} {p p2 p3 : Pos} (hc : X.calm = true) (tk : L2N.Takes X (cW E)) (q : PySem.W.excIn X.K C [.type "ValueError", .type "Exception", .type "BaseException", .type "object"] "ValueError.__new__" = true) (gC : X.mg x = some (.ref C)) (kC : PySem.W.keepIn X.K (.ref C) = true)
    (r : Raises X (.ref C)) (hg : Gl X x) (hdb : (x == ("__debug__" : Str)) = false) (hca : ca c = some C) : PS X (.Raise (some (.Call (.Name x p) [.Constant (.str m) j p2] [] p3)) none pos) (sM X.K T ca E fun s h => .exc c s h) := by
  refine (L2N.ps_raise hc tk (L2N.pmk_own PySem.F.excBase_ValueError q gC kC r hg hdb)).wk fun D t H q => ?_
  obtain ⟨r, s, h, R, S, P⟩ := q
  exact P C r H hca (Ext.refl _ _ _) R
end
end MI

namespace MI
open PySem PyProof.Rows L2
/-- what a global name is -/
inductive Gk where
  | fn (key : Str) | cls (c : Str) | val (a : A) | exc (c : Str)
structure Ctx where
  N : List Str
  sc : Scope
  own : Option Scope
  gl : List (Str × Gk)
  al : List (Nat × Nat)
  lam : Bool
def isStar : Expr → Bool
  | .Starred .. => true
  | _ => false
def bnOf (x : Str) : Option Bn :=
  if x = "len" then some .len else if x = "all" then some .all else if x = "min" then some .min else if x = "max" then some .max else if x = "sum" then some .sum else if x = "int" then some .int else
  if x = "str" then some .str else if x = "ord" then some .ord else if x = "sorted" then some .sorted else if x = "list" then some .list else if x = "tuple" then some .tuple else none
def bmOf (x : Str) : Option Bm :=
  if x = "append" then some .append else if x = "index" then some .index else if x = "get" then some .get else if x = "join" then some .join else none
def tyOf6 (x : Str) : Option Ty6 :=
  if x = "int" then some .int else if x = "bool" then some .bool else if x = "str" then some .str else if x = "tuple" then some .tuple else if x = "list" then some .list else if x = "dict" then some .dict else none
/-- names that must still be the built-in ones -/
def blts : List Str := ["len", "all", "min", "max", "sum", "int", "str", "ord", "sorted", "list", "tuple", "isinstance", "bool", "dict", "range", "enumerate", "zip"]
def isSlice : Expr → Bool
  | .Slice .. => true
  | _ => false
def isCall0 : Expr → Bool
  | .Call (.Name _ _) [] [] _ => true
  | _ => false
def isLc : Expr → Bool
  | .ListComp .. => true
  | .SetComp .. => true
  | .DictComp .. => true
  | _ => false
def isSetE : Expr → Bool
  | .Set .. => true
  | _ => false
def isTup : Expr → Bool
  | .Tuple .. => true
  | _ => false
def slotOf (c : Ctx) (x : Str) : Option Nat :=
  let i := c.N.idxOf x
  if c.N[i]? = some x ∧ x ≠ "__debug__" ∧ x ≠ "__classdict__" then
    match c.sc.names.lookup x with
    | some .local => some i
    | some .cell => some i
    | some .free => some i
    | _ => none
  else none
/-- a name that may be stored to -/
def tgtOf (c : Ctx) (x : Str) : Option Nat :=
  let i := c.N.idxOf x
  if c.N[i]? = some x then
    match c.sc.names.lookup x with
    | some .local => some i
    | some .cell => match c.own with
      | none => some i
      | some o => if o.names.lookup x == some .cell then some i else none
    | _ => none
  else none
def isGl (c : Ctx) (x : Str) : Bool := decide (c.sc.names.lookup x = some .globalImplicit) && decide (x ≠ "__debug__") && decide (x ≠ "__name__")
def isBlt (c : Ctx) (x : Str) : Bool := isGl c x && blts.contains x
/-- the names of a comprehension's own, with their places -/
def ownOf (N : List Str) (scope : Scope) : List (Str × Nat) := scope.names.filterMap fun (n, k) => match k with
  | .local => some (n, N.idxOf n)
  | .cell => some (n, N.idxOf n)
  | _ => none
def alAt (c : Ctx) (p : Pos) : Bool := c.al.contains (p.line, p.col)
def namesOf : List Expr → Option (List Str)
  | [] => some []
  | .Name x _ :: r => (namesOf r).map (x :: ·)
  | _ :: _ => none
/-- forms of their own -/
def isX (x : Str) (args : List Expr) : Bool := match args with
  | [.Call (.Name r _) [_, _] [] _] => decide (x = "list") && decide (r = "range")
  | _ => false
mutual
def cE : Nat → Ctx → Expr → Option E
  | 0, _, _ => none
  | n + 1, c, e => match e with
    | .Constant k _ _ => match k with
      | .int i => some (.con (.int i))
      | .str z => some (.con (.str z))
      | .bool b => some (.con (.bl b))
      | .none => some (.con .non)
      | _ => none
    | .Name x _ => match slotOf c x with
      | some i => some (.var i)
      | none => if isGl c x then match c.gl.lookup x with
          | some (.val a) => some (.glo x a)
          | _ => none
        else none
    | .BinOp a op b _ => match cE n c a, cE n c b with
      | some a, some b => some (.bin op a b)
      | _, _ => none
    | .UnaryOp .Not a _ => (cE n c a).map .not
    | .UnaryOp .USub a _ => (cE n c a).map .neg
    | .Compare a [op] [b] _ => if behindInMarks op b then none else match cE n c a, cE n c b with
      | some a, some b => some (.cmp op a b)
      | _, _ => none
    | .Compare a [op, op'] [b, d] _ => if lastMarks [op, op'] [b, d] then none else match cE n c a, cE n c b, cE n c d with
      | some a, some b, some d => some (.chn op op' a b d)
      | _, _, _ => none
    | .BoolOp op vs _ => match vs with
      | _ :: _ :: _ => cB n c op vs
      | _ => none
    | .IfExp t a b _ => match cE n c t, cE n c a, cE n c b with
      | some t, some a, some b => some (.ite t a b)
      | _, _, _ => none
    | .Call (.Name x _) args [] _ => if isGl c x && args.all (fun a => !isStar a) then
        if x = "isinstance" then match args with
          | [a, .Name t _] => match tyOf6 t, cE n c a with
            | some ty, some a => if isBlt c "isinstance" && isBlt c t then some (.isi a ty) else none
            | _, _ => none
          | _ => none
        else if x = "_law_told" then match args with
          | [.Lambda ps body scope _] => if c.lam && ps.posonlyargs.isEmpty && ps.args.isEmpty && ps.vararg.isNone && ps.kwonlyargs.isEmpty && ps.kw_defaults.isEmpty && ps.kwarg.isNone && ps.defaults.isEmpty && LamX.lamSB c.sc scope then
              (cE n { c with sc := scope, own := some scope, lam := false } body).map .told
            else none
          | _ => none
        else if isX x args then cX n c x args
        else match c.gl.lookup x with
          | some (.fn key) => match args with
            | [] => none
            | _ => (cEs n c args).map (.call key)
          | some (.cls cn) => (cEs n c args).map (.make cn)
          | some _ => none
          | none => match bnOf x, args with
            | some b, _ :: _ => if isBlt c x then (cEs n c args).map (.bi b) else none
            | _, _ => none
      else none
    | .Call (.Attribute o m apos) args [] pos => if !isCall0 o && decide (apos.endLine = pos.line) && args.all (fun a => !isStar a) && decide (args.length < 25) then match cE n c o with
        | some o' => match bmOf m with
          | some .get => match args with
            | [_, _] => (cEs n c args).map (.bm o' .get)
            | _ => none
          | some b => match args with
            | [_] => (cEs n c args).map (.bm o' b)
            | _ => none
          | none => (cEs n c args).map (.meth o' m)
        | none => none
      else none
    | .Attribute o f _ => if isCall0 o then none else (cE n c o).map (.fld · f)
    | .Subscript a (.Slice lo hi none _) _ => match cE n c a, cO n c lo, cO n c hi with
      | some a, some lo, some hi => some (.sl a lo hi)
      | _, _, _ => none
    | .Subscript a b _ => if isSlice b then none else match cE n c a, cE n c b with
      | some a, some b => some (.ix a b)
      | _, _ => none
    | .List es p => (cEs n c es).map (.lst (alAt c p))
    | .Dict ks vs _ => if decide (ks.length ≤ 15) then (cD n c ks vs).map .dic else none
    | .Tuple es _ _ => (cEs n c es).map .tup
    | .ListComp el gs scope p => match cC n c el gs scope with
      | some (el, tg, it, ifs, own) => some (.comp (alAt c p) el tg it ifs own)
      | none => none
    | _ => none
def cX : Nat → Ctx → Str → List Expr → Option E
  | 0, _, _, _ => none
  | n + 1, c, x, args => match args with
    | [.Call (.Name r _) [a, b] [] _] => if decide (x = "list") && decide (r = "range") && isBlt c "list" && isBlt c "range" && !isStar a && !isStar b then
        match cE n c a, cE n c b with
        | some a, some b => some (.lrg a b)
        | _, _ => none
      else none
    | _ => none
/-- a comprehension's parts -/
def cC : Nat → Ctx → Expr → List Comprehension → Scope → Option (E × Tg × I × Es × List Nat)
  | 0, _, _, _, _ => none
  | n + 1, c, el, gs, scope => match gs with
    | [⟨tg, it, ifs, 0⟩] => if blkC c.N c.sc scope (ownOf c.N scope) && !isSetE it && decide (ifs.length ≤ 1) then
        match cI n c tg it, cG n { c with sc := relS scope c.sc, own := some scope } (some ((ownOf c.N scope).map (·.2))) tg, cEs n { c with sc := relS scope c.sc, own := some scope } ifs, cE n { c with sc := relS scope c.sc, own := some scope } el with
        | some it', some tg', some ifs', some el' => some (el', tg', it', ifs', (ownOf c.N scope).map (·.2))
        | _, _, _, _ => none
      else none
    | _ => none
def cB : Nat → Ctx → BoolOp → List Expr → Option E
  | 0, _, _, _ => none
  | n + 1, c, op, vs => match vs with
    | [] => none
    | [x] => cE n c x
    | x :: y :: r => match cE n c x, cB n c op (y :: r) with
      | some a, some b => match op with
        | .And => some (.and a b)
        | .Or => some (.or a b)
      | _, _ => none
def cEs : Nat → Ctx → List Expr → Option Es
  | 0, _, _ => none
  | n + 1, c, es => match es with
    | [] => some .nil
    | e :: r => if isStar e then none else match cE n c e, cEs n c r with
      | some a, some b => some (.cons a b)
      | _, _ => none
/-- a dict display's pairs -/
def cD : Nat → Ctx → List (Option Expr) → List Expr → Option Es
  | 0, _, _, _ => none
  | n + 1, c, ks, vs => match ks, vs with
    | [], [] => some .nil
    | some k :: ks, v :: vs => match cE n c k, cE n c v, cD n c ks vs with
      | some a, some b, some r => some (.cons a (.cons b r))
      | _, _, _ => none
    | _, _ => none
def cO : Nat → Ctx → Option Expr → Option Es
  | 0, _, _ => none
  | n + 1, c, o => match o with
    | none => some .nil
    | some e => (cE n c e).map fun a => .cons a .nil
def cI : Nat → Ctx → Expr → Expr → Option I
  | 0, _, _, _ => none
  | n + 1, c, tg, e => match e with
    | .Call (.Name x _) args [] _ =>
      if x = "range" then if isBlt c "range" && args.all (fun a => !isStar a) then match args with
          | [a] => (cE n c a).map .rng1
          | [a, b] => match cE n c a, cE n c b with
            | some a, some b => some (.rng2 a b)
            | _, _ => none
          | _ => none
        else none
      else if x = "enumerate" then if isBlt c "enumerate" && args.all (fun a => !isStar a) && isTup tg then match args with
          | [a] => (cE n c a).map .enu
          | _ => none
        else none
      else if x = "zip" then if isBlt c "zip" && args.all (fun a => !isStar a) && isTup tg then match args with
          | [a, b] => match cE n c a, cE n c b with
            | some a, some b => some (.zip a b)
            | _, _ => none
          | _ => none
        else none
      else (cE n c e).map .seq
    | _ => (cE n c e).map .seq
/-- a target; own: a comprehension's, names of its own alone -/
def cG : Nat → Ctx → Option (List Nat) → Expr → Option Tg
  | 0, _, _, _ => none
  | n + 1, c, own, e => match e with
    | .Name x _ => match tgtOf c x with
      | some i => match own with
        | none => some (.nm i)
        | some l => if l.contains i then some (.nm i) else none
      | none => none
    | .Tuple es _ _ => (cGs n c own es).map .tp
    | .Subscript o i _ => match own with
      | none => if isSlice i then none else match cE n c o, cE n c i with
        | some o, some i => some (.sb o i)
        | _, _ => none
      | some _ => none
    | _ => none
def cGs : Nat → Ctx → Option (List Nat) → List Expr → Option Tgs
  | 0, _, _, _ => none
  | n + 1, c, own, es => match es with
    | [] => some .nil
    | e :: r => if isStar e then none else match cG n c own e, cGs n c own r with
      | some a, some b => some (.cons a b)
      | _, _ => none
end
/-- do the stores of a pair, a triple of plain local names change their order -/
def swapped (c : Ctx) (tgs vs : List Expr) : Option (List Str) :=
  if (tgs.length == 2 || tgs.length == 3) && vs.length == tgs.length then
    match namesOf tgs with
    | some ns => if ns.all (fun x => decide (c.sc.names.lookup x = some .local)) && decide ns.Nodup && tgs.all (fun t => t.pos.line == (tgs.head?.map (·.pos.line)).getD 0) && !vs.all (foldedForSure 8) && !vs.all (constantsAlone 8) then some ns else none
    | none => none
  else none
/-- .. do they surely not -/
def unswapped (c : Ctx) (tgs vs : List Expr) : Bool :=
  vs.all (fun v => !isStar v) && (vs.length != tgs.length || (match namesOf tgs with
    | some ns => !ns.all (fun x => decide (c.sc.names.lookup x = some .local)) || vs.all (foldedForSure 8)
    | none => true))
mutual
def cS : Nat → Ctx → Stmt → Option S
  | 0, _, _ => none
  | n + 1, c, st => match st with
    | .Pass _ => some .pas
    | .Break _ => some .brk
    | .Continue _ => some .cnt
    | .Return none _ => some .ret0
    | .Return (some e) _ => (cE n c e).map .ret
    | .Expr e _ => if isLc e then none else (cE n c e).map .exp
    | .If t a b _ => match cE n c t, cSs n c a, cSs n c b with
      | some t, some a, some b => some (.ife t a b)
      | _, _, _ => none
    | .For tg it b [] _ => if isSetE it then none else match cI n c tg it, cG n c none tg, cSs n c b with
      | some it, some tg, some b => some (.fo tg it b)
      | _, _, _ => none
    | .While t b [] _ => match cE n c t, cSs n c b with
      | some t, some b => some (.wh t b)
      | _, _ => none
    | .Raise (some (.Call (.Name x _) [.Constant (.str _) _ _] [] _)) none _ => if isGl c x then match c.gl.lookup x with
        | some (.exc cn) => some (.rai cn)
        | _ => none
      else none
    | .Assign [tg] e pos => match tg with
      | .Name x px => match tgtOf c x with
        | some i => match e with
          | .ListComp el gs scope p => match cC n c el gs scope with
            | some (el', tg', it', ifs', own') =>
              if decide (c.sc.names.lookup x = some .local) && (px.line == p.line) && !(scope.names.any fun (n, k) => n == x && (k == .local || k == .cell)) then some (.asg (.nm i) (.comp (alAt c p) el' tg' it' ifs' own'))
              else if decide (c.sc.names.lookup x ≠ some .local) || (px.line != p.line) || (scope.names.any fun (n, k) => n == x && (k == .local || k == .cell)) then some (.asg (.nm i) (.comp (alAt c p) el' tg' it' ifs' own')) else none
            | none => none
          | _ => if isLc e then none else (cE n c e).map (.asg (.nm i))
        | none => none
      | .Attribute o f _ => match cE n c o, cE n c e with
        | some o, some e => some (.asg (.fl o f) e)
        | _, _ => none
      | .Tuple tgs _ _ => if isLc e then none else match e with
        | .Tuple vs _ _ => match swapped c tgs vs with
          | some ns => match cG n c none tg, cE n c e with
            | some t, some e => some (.asg t e)
            | _, _ => none
          | none => if unswapped c tgs vs then match cG n c none tg, cE n c e with
              | some t, some e => some (.asg t e)
              | _, _ => none
            else none
        | _ => match cG n c none tg, cE n c e with
          | some t, some e => some (.asg t e)
          | _, _ => none
      | .Subscript _ i _ => if isSlice i then none else match cG n c none tg, cE n c e with
        | some t, some e => some (.asg t e)
        | _, _ => none
      | _ => none
    | _ => none
def cSs : Nat → Ctx → List Stmt → Option Ss
  | 0, _, _ => none
  | n + 1, c, ss => match ss with
    | [] => some .nil
    | st :: r => match cS n c st, cSs n c r with
      | some a, some b => some (.cons a b)
      | _, _ => none
end
end MI

namespace MI
open PySem PyProof.Rows L2
theorem star_cons {e : Expr} (h : isStar e = false) (es : List Expr) (env : Env) : starEach (e :: es) env = (false, eval e env) :: starEach es env := by
  cases e <;> first | rfl | cases h
theorem star_any {es : List Expr} (h : (es.all fun a => !isStar a) = true) (pos : Pos) (env : Env) : (backTo pos (starEach es env)).any (·.1) = false := by
  induction es with
  | nil => rfl
  | cons e es ih =>
    rw [List.all_cons, Bool.and_eq_true] at h
    have he : isStar e = false := by simpa using h.1
    rw [star_cons he]
    have := ih h.2
    unfold backTo at this ⊢
    rw [List.map_cons, List.any_cons, this]
    rfl
theorem star_all {es : List Expr} (h : (es.all fun a => !isStar a) = true) (pos : Pos) (env : Env) : (backTo pos (starEach es env)).all (fun x => !x.1) = true := by
  induction es with
  | nil => rfl
  | cons e es ih =>
    rw [List.all_cons, Bool.and_eq_true] at h
    have he : isStar e = false := by simpa using h.1
    rw [star_cons he]
    have := ih h.2
    unfold backTo at this ⊢
    rw [List.map_cons, List.all_cons, this]
    rfl
theorem attr_base {o : Expr} (h : isCall0 o = false) (f : Str) (env : Env) (w : Sem Value) : attributeBase o f env w = w := by
  unfold attributeBase
  split
  · cases h
  · rfl
theorem plain_ix {b : Expr} (h : isSlice b = false) : PlainIx b := fun o i => by
  cases b <;> first | rfl | cases h
theorem swaps_no {e : Expr} (h : isLc e = false) (t : Option Expr) (l : Nat) (env : Env) : swapsWith e t l env = pure false := by
  cases e <;> first | rfl | cases h
theorem folded_no {e : Expr} (h : isSetE e = false) (env : Env) (x : Value) : foldedSetIterable e env x = pure x := by
  cases e <;> first | rfl | cases h
theorem star_len (es : List Expr) (env : Env) : (starEach es env).length = es.length := by
  induction es with
  | nil => rfl
  | cons e es ih => cases e <;> simp [starEach, ih]
theorem meth_ht {o : Expr} {mn : Str} {apos pos : Pos} {args : List Expr} {env : Env} (h1 : isCall0 o = false) (h2 : (args.all fun a => !isStar a) = true) (h3 : args.length < 25) (h4 : apos.endLine = pos.line) :
    eval (.Call (.Attribute o mn apos) args [] pos) env = (do
      let ov ← eval o env
      standAt apos.atName
      let (f, first) ← holding [ov] (getMethod ov mn (do return (← importBound o env).getD true))
      callWith pos f first (backTo pos (starEach args env)) (backToKw pos (keywordEach [] env))) := by
  show (do
    let ov ← attributeBase o mn env (eval o env)
    standAt apos.atName
    methodCall o mn apos pos env ov (args.length + 0) (backTo pos (starEach args env)) (backToKw pos (keywordEach [] env))) = _
  rw [attr_base h1]
  have hf : methodCallForm (args.length + 0) (backTo pos (starEach args env)) (backToKw pos (keywordEach [] env)) = true := by
    unfold methodCallForm
    rw [star_all h2]
    simp [backToKw, keywordEach]
    omega
  unfold methodCall
  rw [hf]
  have hp : methodCallPos true o env apos pos = pure pos := by
    unfold methodCallPos
    rw [if_pos (by simp [h4])]
  rw [hp]
  rfl
end MI

namespace MI
open PySem PyProof.Rows L2
def mTold (Pg : Prog) (m : ASt → AH → R A) : ASt → AH → R A := fun s h => match m s h with
      | .ok v h1 => .ok v h1
      | .exc c h1 => if Pg.told.contains c then .ok (.tup [.str "refused", .str c]) h1 else .bad
      | .bad => .bad
def noParams (ps : Arguments) : Bool := ps.posonlyargs.isEmpty && ps.args.isEmpty && ps.vararg.isNone && ps.kwonlyargs.isEmpty && ps.kw_defaults.isEmpty && ps.kwarg.isNone && ps.defaults.isEmpty
theorem takesN0 {X : Cx} : L2N.Takes X (fun _ _ _ _ => False) := fun _ _ x => by
  obtain ⟨_, _, _, _, _, _, _, _, _, _, _, _, _, _, _, _, z⟩ := x
  exact z.elim
/-- the context of a lambda's body; the errors that leave it bear no context -/
def lamCx (X : Cx) (A : Around) (outer : List Env) (s : Shared) (H : Hp) (E : XK) (scope : Scope) (f c' : Addr) : Cx :=
  { LamX.lamCx X A outer s H E scope f c' with xe := fun e s' => wpAny (model X.prog X.w) (A.deeper (LamX.lamEnv X scope s.heap.objs.size f c')) (leaving (LamX.lamEnv X scope s.heap.objs.size f c') e) (fun _ s'' => L2N.CX X.prog X.w outer H s E e s'') (fun e' s'' => L2N.CX X.prog X.w outer H s E e' s'') s' }
/-- what is known of the program, its defs called at most k deep -/
structure Facts (P : Program) (w : World) (K : PySem.W.Frag) (mg : Str → Option Value) (base : Heap) (T : List (Addr × Str)) (ca : Str → Option Addr) (Pg : Prog) (gl : List (Str × Gk)) (cf : Str → List A → AH → R A) (k : Nat) : Prop where
  blt : ∀ x, blts.contains x = true → mg x = none
  val : ∀ x a, gl.lookup x = some (.val a) → ∃ v u, mg x = some u ∧ RelV v u ∧ ∀ H r n, RA K H r n a v
  fn : ∀ x key, gl.lookup x = some (.fn key) → ∃ f fd ps, mg x = some (.ref f) ∧ PySem.W.keepIn K (.ref f) = true ∧ Binds K fd ps [] ∧ FnOk P w K mg base (L2N.CX P w) k f fd ps (spM K T ca ps.length (cf key)) ∧ ∀ as h, as.length ≠ ps.length → cf key as h = .bad
  cls : ∀ x cn, gl.lookup x = some (.cls cn) → ∃ C ci g f fd ps, mg x = some (.ref C) ∧ ca cn = some C ∧ Pg.cls.lookup cn = some ci ∧ ci.init = some g ∧ Mk K C f ∧ Binds K fd ps [] ∧ FnOk P w K mg base (L2N.CX P w) k f fd ps (spM K T ca ps.length (cf g)) ∧ ∀ as h, as.length ≠ ps.length → cf g as h = .bad
  exc : ∀ x cn, gl.lookup x = some (.exc cn) → ∃ C, mg x = some (.ref C) ∧ ca cn = some C ∧ PySem.W.excIn K C [.type "ValueError", .type "Exception", .type "BaseException", .type "object"] "ValueError.__new__" = true ∧ PySem.W.keepIn K (.ref C) = true ∧
    PySem.W.subIn K (.ref C) (.type "BaseException") = some true ∧ PySem.W.typeIn K (.ref C) = some (.type "type")
  clsOk : ClsOk K ca Pg
  meth : ∀ mn c ci g, Pg.cls.lookup c = some ci → ci.meths.lookup mn = some g → ∃ C f fd ps, ca c = some C ∧ Cls K C ∧ Meth K C mn f ∧ FnOk P w K mg base (L2N.CX P w) k f fd ps (spM K T ca ps.length (cf g)) ∧ (∀ as h, as.length ≠ ps.length → cf g as h = .bad) ∧ Binds K fd ps []
  told : ∀ (X : Cx) (E : XK) (cc P' : Addr) (scope : Scope) (params : Arguments) (body : Expr) (lpos p pos : Pos) (m : ASt → AH → R A), X.prog = P → X.w = w → X.K = K → X.mg = mg → X.base = base → Gl X "_law_told" → LamX.TabB base mg cc P' → X.env.code = .ref cc →
    (P', X.env.qual ++ "<lambda>") ∈ T → (∀ p ∈ T, p.1 = P' → p.2 = X.env.qual ++ "<lambda>") → Room (k + 3) X.A → LamX.LamS X.env.scope scope → noParams params = true →
    (∀ (A : Around) (outer : List Env) (s : Shared) (H : Hp) (E' : XK) (f c' : Addr), Room (k + 1) (A.deeper (LamX.lamEnv X scope s.heap.objs.size f c')) → PE (lamCx X A outer s H E' scope f c') body (tM K T ca (cW E') m)) →
    PE X (.Call (.Name "_law_told" p) [.Lambda params body scope lpos] [] pos) (tM K T ca (cW E) (mTold Pg m))
structure GX (T : List (Addr × Str)) (ca : Str → Option Addr) (Pg : Prog) (gl : List (Str × Gk)) (cf : Str → List A → AH → R A) (k : Nat) (c : Ctx) (X : Cx) (E : XK) : Prop where
  facts : Facts X.prog X.w X.K X.mg X.base T ca Pg gl cf k
  N : X.N = c.N
  nd : X.N.Nodup
  sc : X.env.scope = c.sc
  kd : c.sc.kind = .function
  fn : ∀ x, (c.own = none → X.fn x = true) ∧ ∀ o, c.own = some o → (o.names.lookup x == some .cell) = true → X.fn x = true
  calm : X.calm = true
  tk : L2N.Takes X (cW E)
  room : Room (k + 1) X.A
  gl : c.gl = gl
  lam : c.lam = true → ∃ cc P', LamX.TabB X.base X.mg cc P' ∧ X.env.code = .ref cc ∧ (P', X.env.qual ++ "<lambda>") ∈ T ∧ (∀ p ∈ T, p.1 = P' → p.2 = X.env.qual ++ "<lambda>") ∧ Room (k + 3) X.A
section
variable {T : List (Addr × Str)} {ca : Str → Option Addr} {Pg : Prog} {gl : List (Str × Gk)} {cf : Str → List A → AH → R A} {k : Nat} {c : Ctx} {X : Cx} {E : XK}
theorem GX.hu (G : GX T ca Pg gl cf k c X E) : X.A.units + 64 < cLine := G.room.units
theorem GX.isGl (G : GX T ca Pg gl cf k c X E) {x : Str} (h : isGl c x = true) : Gl X x ∧ (x == ("__debug__" : Str)) = false ∧ x ≠ "__name__" := by
  unfold MI.isGl at h
  simp only [Bool.and_eq_true, decide_eq_true_eq] at h
  obtain ⟨⟨h1, h2⟩, h3⟩ := h
  refine ⟨?_, by simpa using h2, h3⟩
  show X.env.scope.names.lookup x = _
  rw [G.sc]
  exact h1
theorem GX.isBlt (G : GX T ca Pg gl cf k c X E) {x : Str} (h : isBlt c x = true) : Gl X x ∧ X.mg x = none ∧ (x == ("__debug__" : Str)) = false ∧ x ≠ "__name__" := by
  unfold MI.isBlt at h
  rw [Bool.and_eq_true] at h
  obtain ⟨h1, h2, h3⟩ := G.isGl h.1
  exact ⟨h1, G.facts.blt x h.2, h2, h3⟩
theorem GX.slot (G : GX T ca Pg gl cf k c X E) {x : Str} {i : Nat} (h : slotOf c x = some i) : X.N[i]? = some x ∧ Vis X.env.scope x ∧ (x == ("__debug__" : Str)) = false ∧ (x == ("__classdict__" : Str)) = false := by
  unfold slotOf at h
  dsimp only at h
  split at h
  · rename_i hc
    obtain ⟨h1, h2, h3⟩ := hc
    have key : i = c.N.idxOf x ∧ Vis c.sc x := by
      split at h
      · rename_i e
        cases h
        exact ⟨rfl, .inl e⟩
      · rename_i e
        cases h
        exact ⟨rfl, .inr (.inl e)⟩
      · rename_i e
        cases h
        exact ⟨rfl, .inr (.inr e)⟩
      · cases h
    refine ⟨?_, ?_, by simpa using h2, by simpa using h3⟩
    · rw [G.N, key.1]
      exact h1
    · rw [G.sc]
      exact key.2
  · cases h
theorem GX.tgt (G : GX T ca Pg gl cf k c X E) {x : Str} {i : Nat} (h : tgtOf c x = some i) : X.N[i]? = some x ∧ Loc X.env.scope x ∧ (X.fn x = true ∨ X.env.scope.names.lookup x = some .local) := by
  unfold tgtOf at h
  dsimp only at h
  split at h
  · rename_i h1
    rw [G.N, G.sc]
    split at h
    · rename_i e
      cases h
      exact ⟨h1, .inl e, .inr e⟩
    · rename_i e
      split at h
      · rename_i eo
        cases h
        exact ⟨h1, .inr e, .inl ((G.fn x).1 eo)⟩
      · rename_i o eo
        split at h
        · rename_i ec
          cases h
          exact ⟨h1, .inr e, .inl ((G.fn x).2 o eo ec)⟩
        · cases h
    · cases h
  · cases h
/-- a block of a comprehension -/
theorem GX.blk (G : GX T ca Pg gl cf k c X E) {scope : Scope} (ok : BlkOk c.N c.sc scope (ownOf c.N scope)) (s : Shared) (H : Hp) (C : Addr) (cl : List (Str × Addr)) (fp : List Addr) :
    GX T ca Pg gl cf k { c with sc := relS scope c.sc, own := some scope } (X.blk s H scope (compEnvC scope cl C X.env) fp) (fun _ _ _ => False) where
  facts := G.facts
  N := G.N
  nd := G.nd
  sc := by
    show relabel scope X.env = relS scope c.sc
    rw [← G.sc]
    rfl
  kd := ok.kind
  fn := fun x => ⟨(fun z => by cases z), (fun o e h => by cases e; exact h)⟩
  calm := G.calm
  tk := takesN0
  room := G.room
  gl := G.gl
  lam := fun h => G.lam h
theorem bn_ok (hc : X.calm = true) {x : Str} {b : Bn} (h : bnOf x = some b) : (∃ id, bootBuiltins x = some (.builtin id) ∧ CallR X (.builtin id) (rCall X.K T ca fun h => biOp h b)) ∨ ∃ id, bootBuiltins x = some (.type id) ∧ CallR X (.type id) (rCall X.K T ca fun h => biOp h b) := by
  unfold bnOf at h
  split at h
  · rename_i e; subst e; cases h; exact .inl ⟨_, by decide +kernel, bi_len⟩
  split at h
  · rename_i e; subst e; cases h; exact .inl ⟨_, by decide +kernel, bi_all hc⟩
  split at h
  · rename_i e; subst e; cases h; exact .inl ⟨_, by decide +kernel, bi_min hc⟩
  split at h
  · rename_i e; subst e; cases h; exact .inl ⟨_, by decide +kernel, bi_max hc⟩
  split at h
  · rename_i e; subst e; cases h; exact .inl ⟨_, by decide +kernel, bi_sum hc⟩
  split at h
  · rename_i e; subst e; cases h; exact .inr ⟨_, by decide +kernel, bi_int⟩
  split at h
  · rename_i e; subst e; cases h; exact .inr ⟨_, by decide +kernel, bi_str⟩
  split at h
  · rename_i e; subst e; cases h; exact .inl ⟨_, by decide +kernel, bi_ord⟩
  split at h
  · rename_i e; subst e; cases h; exact .inl ⟨_, by decide +kernel, bi_sorted hc⟩
  split at h
  · rename_i e; subst e; cases h; exact .inr ⟨_, by decide +kernel, bi_list⟩
  split at h
  · rename_i e; subst e; cases h; exact .inr ⟨_, by decide +kernel, bi_tuple⟩
  · cases h
theorem ty_ok {x : Str} {t : Ty6} (h : tyOf6 x = some t) : bootBuiltins x = some (.type (tyName t)) := by
  unfold tyOf6 at h
  split at h
  · rename_i e; subst e; cases h; decide +kernel
  split at h
  · rename_i e; subst e; cases h; decide +kernel
  split at h
  · rename_i e; subst e; cases h; decide +kernel
  split at h
  · rename_i e; subst e; cases h; decide +kernel
  split at h
  · rename_i e; subst e; cases h; decide +kernel
  split at h
  · rename_i e; subst e; cases h; decide +kernel
  · cases h
theorem mB_and {ma mb : ASt → AH → R A} : mB (mAnd ma mb) = mAnd ma mb := by
  funext s h
  unfold mB mAnd
  cases ma s h with
  | bad => rfl
  | exc c h1 => rfl
  | ok v h1 =>
    cases v with
    | bl b =>
      cases b with
      | false => rfl
      | true =>
        dsimp only [MI.R.bind]
        cases mb s h1 with
        | bad => rfl
        | exc c h2 => rfl
        | ok w h2 => cases w <;> rfl
    | _ => rfl
theorem mB_or {ma mb : ASt → AH → R A} : mB (mOr ma mb) = mOr ma mb := by
  funext s h
  unfold mB mOr
  cases ma s h with
  | bad => rfl
  | exc c h1 => rfl
  | ok v h1 =>
    cases v with
    | bl b =>
      cases b with
      | true => rfl
      | false =>
        dsimp only [MI.R.bind]
        cases mb s h1 with
        | bad => rfl
        | exc c h2 => rfl
        | ok w h2 => cases w <;> rfl
    | _ => rfl
theorem and_mB {ma mb : ASt → AH → R A} : mAnd ma (mB mb) = mAnd ma mb := by
  funext s h
  unfold mB mAnd
  cases ma s h with
  | bad => rfl
  | exc c h1 => rfl
  | ok v h1 =>
    cases v with
    | bl b =>
      cases b with
      | false => rfl
      | true =>
        dsimp only [MI.R.bind]
        cases mb s h1 with
        | bad => rfl
        | exc c h2 => rfl
        | ok w h2 => cases w <;> rfl
    | _ => rfl
theorem or_mB {ma mb : ASt → AH → R A} : mOr ma (mB mb) = mOr ma mb := by
  funext s h
  unfold mB mOr
  cases ma s h with
  | bad => rfl
  | exc c h1 => rfl
  | ok v h1 =>
    cases v with
    | bl b =>
      cases b with
      | true => rfl
      | false =>
        dsimp only [MI.R.bind]
        cases mb s h1 with
        | bad => rfl
        | exc c h2 => rfl
        | ok w h2 => cases w <;> rfl
    | _ => rfl
end
/-- all that is shown at one depth of the text -/
structure Snd (T : List (Addr × Str)) (ca : Str → Option Addr) (Pg : Prog) (gl : List (Str × Gk)) (cf : Str → List A → AH → R A) (k n : Nat) : Prop where
  e : ∀ {c : Ctx} {X : Cx} {E : XK} {x : Expr} {ir : MI.E}, GX T ca Pg gl cf k c X E → cE n c x = some ir → PE X x (tM X.K T ca (cW E) (evE Pg cf ir)) ∧ PT X x (bM X.K T ca (cW E) (evE Pg cf ir))
  b : ∀ {c : Ctx} {X : Cx} {E : XK} {op : BoolOp} {vs : List Expr} {pos : Pos} {ir : MI.E}, GX T ca Pg gl cf k c X E → cB n c op vs = some ir → PE X (.BoolOp op vs pos) (tM X.K T ca (cW E) (mB (evE Pg cf ir))) ∧ PW X (.BoolOp op vs pos) (bM X.K T ca (cW E) (mB (evE Pg cf ir)))
  es : ∀ {c : Ctx} {X : Cx} {E : XK} {xs : List Expr} {ir : Es}, GX T ca Pg gl cf k c X E → cEs n c xs = some ir → PA X xs (aM X.K T ca (cW E) (evEs Pg cf ir))
  ts : ∀ {c : Ctx} {X : Cx} {E : XK} {xs : List Expr} {ir : Es}, GX T ca Pg gl cf k c X E → cEs n c xs = some ir → xs.length ≤ 1 → PTs X xs (tsM X.K T ca (cW E) (evEs Pg cf ir))
  x : ∀ {c : Ctx} {X : Cx} {E : XK} {x : Str} {args : List Expr} {p pos : Pos} {ir : MI.E}, GX T ca Pg gl cf k c X E → cX n c x args = some ir → PE X (.Call (.Name x p) args [] pos) (tM X.K T ca (cW E) (evE Pg cf ir))
  d : ∀ {c : Ctx} {X : Cx} {E : XK} {pos : Pos} {ks : List (Option Expr)} {vs : List Expr} {ir : Es}, GX T ca Pg gl cf k c X E → cD n c ks vs = some ir → DPs X T ca (cW E) pos ks vs (evEs Pg cf ir) ∧ (ks.all (·.isSome) = true ∧ ks.length = vs.length) ∧ (ks = [] → ir = .nil)
  o : ∀ {c : Ctx} {X : Cx} {E : XK} {x : Option Expr} {ir : Es}, GX T ca Pg gl cf k c X E → cO n c x = some ir → PO X x (oM X.K T ca (cW E) fun s h => (evEs Pg cf ir s h).bind fun l h2 => R.of (partA l) h2)
  i : ∀ {c : Ctx} {X : Cx} {E : XK} {tg x : Expr} {ir : I}, GX T ca Pg gl cf k c X E → cI n c tg x = some ir → PI X tg x (iM X.K T ca (cW E) (evI Pg cf ir))
  g : ∀ {c : Ctx} {X : Cx} {E : XK} {x : Expr} {ir : Tg}, GX T ca Pg gl cf k c X E → cG n c none x = some ir → PG X x (gM X.K T ca (cW E) (evG Pg cf ir))
  gs : ∀ {c : Ctx} {X : Cx} {E : XK} {xs : List Expr} {ir : Tgs}, GX T ca Pg gl cf k c X E → cGs n c none xs = some ir → PGs X xs (gsM X.K T ca (cW E) (evGs Pg cf ir))
  go : ∀ {c : Ctx} {X : Cx} {E : XK} {x : Expr} {own : List Nat} {ir : Tg}, GX T ca Pg gl cf k c X E → cG n c (some own) x = some ir → PG X x (gO X.K T ca own (evG Pg cf ir))
  gso : ∀ {c : Ctx} {X : Cx} {E : XK} {xs : List Expr} {own : List Nat} {ir : Tgs}, GX T ca Pg gl cf k c X E → cGs n c (some own) xs = some ir → PGs X xs (gsO X.K T ca own (evGs Pg cf ir))
  c : ∀ {c : Ctx} {X : Cx} {E : XK} {el : Expr} {gens : List Comprehension} {scope : Scope} {r : MI.E × Tg × I × Es × List Nat}, GX T ca Pg gl cf k c X E → cC n c el gens scope = some r →
    ∃ tg it ifs, gens = [⟨tg, it, ifs, 0⟩] ∧ r.2.2.2.2 = (ownOf c.N scope).map (·.2) ∧ PI X tg it (iM X.K T ca (cW E) (evI Pg cf r.2.2.1)) ∧ BlkOk X.N X.env.scope scope (ownOf c.N scope) ∧
      (∀ (s : Shared) (H : Hp) (C : Addr) (cl : List (Str × Addr)) (fp : List Addr), PG (X.blk s H scope (compEnvC scope cl C X.env) fp) tg (gO X.K T ca ((ownOf c.N scope).map (·.2)) (evG Pg cf r.2.1))) ∧
      (∀ (s : Shared) (H : Hp) (C : Addr) (cl : List (Str × Addr)) (fp : List Addr), PTs (X.blk s H scope (compEnvC scope cl C X.env) fp) ifs (tsM X.K T ca W0 (evEs Pg cf r.2.2.2.1))) ∧
      (∀ (s : Shared) (H : Hp) (C : Addr) (cl : List (Str × Addr)) (fp : List Addr), PE (X.blk s H scope (compEnvC scope cl C X.env) fp) el (tM X.K T ca W0 (evE Pg cf r.1))) ∧ ∀ x, foldedSetIterable it X.env x = pure x
end MI

namespace MI
open PySem PyProof.Rows L2
section
variable {T : List (Addr × Str)} {ca : Str → Option Addr} {Pg : Prog} {gl : List (Str × Gk)} {cf : Str → List A → AH → R A} {k n : Nat} {c : Ctx} {X : Cx} {E : XK}
theorem snd_es (S : Snd T ca Pg gl cf k n) (G : GX T ca Pg gl cf k c X E) {xs : List Expr} {ir : Es} (h : cEs (n + 1) c xs = some ir) : PA X xs (aM X.K T ca (cW E) (evEs Pg cf ir)) := by
  cases xs with
  | nil =>
    simp only [cEs] at h
    cases h
    exact ja_nil
  | cons e r =>
    simp only [cEs] at h
    split at h
    · cases h
    · rename_i hs
      split at h
      · rename_i a b ea eb
        cases h
        exact ja_cons (S.e G ea).1 (S.es G eb) (star_cons (by simpa using hs) _ _)
      · cases h
theorem snd_ts (S : Snd T ca Pg gl cf k n) (G : GX T ca Pg gl cf k c X E) {xs : List Expr} {ir : Es} (h : cEs (n + 1) c xs = some ir) (hl : xs.length ≤ 1) : PTs X xs (tsM X.K T ca (cW E) (evEs Pg cf ir)) := by
  cases xs with
  | nil =>
    simp only [cEs] at h
    cases h
    exact jts_nil
  | cons e r =>
    cases r with
    | cons _ _ => simp at hl
    | nil =>
      simp only [cEs] at h
      split at h
      · cases h
      · split at h
        · rename_i a b ea eb
          cases h
          cases n with
          | zero => cases eb
          | succ n =>
            simp only [cEs] at eb
            cases eb
            exact jts_one (S.e G ea).2
        · cases h
theorem snd_x (S : Snd T ca Pg gl cf k n) (G : GX T ca Pg gl cf k c X E) {x : Str} {args : List Expr} {p pos : Pos} {ir : MI.E} (h : cX (n + 1) c x args = some ir) : PE X (.Call (.Name x p) args [] pos) (tM X.K T ca (cW E) (evE Pg cf ir)) := by
  unfold cX at h
  split at h
  · rename_i rn p2 a b pos2
    split at h
    · rename_i hb
      simp only [Bool.and_eq_true, decide_eq_true_eq, Bool.not_eq_true'] at hb
      obtain ⟨⟨⟨⟨⟨e1, e2⟩, h1⟩, h2⟩, s1⟩, s2⟩ := hb
      subst e1 e2
      split at h
      · rename_i a' b' ea eb
        cases h
        obtain ⟨g1, g2, g3, g4⟩ := G.isBlt h1
        obtain ⟨k1, k2, k3, k4⟩ := G.isBlt h2
        exact je_lrg G.calm g1 g2 k1 k2 (S.e G ea).1 (S.e G eb).1 (star_cons s1 _ _) (star_cons s2 _ _) (star_any (by simp [s2]) _ _)
      · cases h
    · cases h
  · cases h
theorem snd_d (S : Snd T ca Pg gl cf k n) (G : GX T ca Pg gl cf k c X E) {pos : Pos} {ks : List (Option Expr)} {vs : List Expr} {ir : Es} (h : cD (n + 1) c ks vs = some ir) : DPs X T ca (cW E) pos ks vs (evEs Pg cf ir) ∧ (ks.all (·.isSome) = true ∧ ks.length = vs.length) ∧ (ks = [] → ir = .nil) := by
  cases ks with
  | nil =>
    cases vs with
    | nil =>
      simp only [cD] at h
      cases h
      exact ⟨jd_nil, ⟨rfl, rfl⟩, fun _ => rfl⟩
    | cons v vs => simp only [cD] at h; cases h
  | cons k ks =>
    cases k with
    | none => simp only [cD] at h; cases h
    | some k =>
      cases vs with
      | nil => simp only [cD] at h; cases h
      | cons v vs =>
        simp only [cD] at h
        split at h
        · rename_i a b r ea eb er
          cases h
          obtain ⟨d1, ⟨d2, d3⟩, _⟩ := S.d (pos := pos) G er
          exact ⟨jd_cons (S.e G ea).1 (S.e G eb).1 d1, ⟨by simpa using d2, by simp [d3]⟩, fun z => by cases z⟩
        · cases h
theorem snd_o (S : Snd T ca Pg gl cf k n) (G : GX T ca Pg gl cf k c X E) {x : Option Expr} {ir : Es} (h : cO (n + 1) c x = some ir) : PO X x (oM X.K T ca (cW E) fun s h => (evEs Pg cf ir s h).bind fun l h2 => R.of (partA l) h2) := by
  cases x with
  | none =>
    simp only [cO] at h
    cases h
    exact jo_none
  | some e =>
    simp only [cO, Option.map_eq_some_iff] at h
    obtain ⟨a, ea, e2⟩ := h
    subst e2
    exact jo_some (S.e G ea).1
theorem snd_b (S : Snd T ca Pg gl cf k n) (G : GX T ca Pg gl cf k c X E) {op : BoolOp} {vs : List Expr} {pos : Pos} {ir : MI.E} (h : cB (n + 1) c op vs = some ir) :
    PE X (.BoolOp op vs pos) (tM X.K T ca (cW E) (mB (evE Pg cf ir))) ∧ PW X (.BoolOp op vs pos) (bM X.K T ca (cW E) (mB (evE Pg cf ir))) := by
  cases vs with
  | nil =>
    simp only [cB] at h
    cases h
  | cons x r =>
    cases r with
    | nil =>
      simp only [cB] at h
      obtain ⟨h1, h2⟩ := S.e G h
      refine ⟨je_one h1, ?_⟩
      cases op with
      | And => exact jw_and1 h2
      | Or => exact jw_or1 h2
    | cons y r =>
      simp only [cB] at h
      split at h
      · rename_i a b ea eb
        obtain ⟨h1, h2⟩ := S.e G ea
        obtain ⟨h3, h4⟩ := S.b (pos := pos) G eb
        cases op with
        | And =>
          cases h
          have e1 : mB (evE Pg cf (.and a b)) = mAnd (evE Pg cf a) (mB (evE Pg cf b)) := by
            rw [and_mB]
            exact mB_and
          rw [e1]
          exact ⟨je_and h1 h3, jw_and h2 h4⟩
        | Or =>
          cases h
          have e1 : mB (evE Pg cf (.or a b)) = mOr (evE Pg cf a) (mB (evE Pg cf b)) := by
            rw [or_mB]
            exact mB_or
          rw [e1]
          exact ⟨je_or h1 h3, jw_or h2 h4⟩
      · cases h
theorem all1 {a : Expr} (h : ([a].all fun a => !isStar a) = true) : isStar a = false := by simpa using h
theorem all2 {a b : Expr} (h : ([a, b].all fun a => !isStar a) = true) : isStar a = false ∧ isStar b = false := by simpa using h
theorem snd_i (S : Snd T ca Pg gl cf k n) (G : GX T ca Pg gl cf k c X E) {tg x : Expr} {ir : I} (h : cI (n + 1) c tg x = some ir) : PI X tg x (iM X.K T ca (cW E) (evI Pg cf ir)) := by
  have seq : (cE n c x).map MI.I.seq = some ir → PI X tg x (iM X.K T ca (cW E) (evI Pg cf ir)) := fun h => by
    rw [Option.map_eq_some_iff] at h
    obtain ⟨a, ea, e2⟩ := h
    subst e2
    exact ji_seq (S.e G ea).1
  unfold cI at h
  split at h
  · rename_i xn px args pos
    split at h
    · rename_i ex
      subst ex
      split at h
      · rename_i hb
        rw [Bool.and_eq_true] at hb
        obtain ⟨hb, hst⟩ := hb
        obtain ⟨g1, g2, g3, g4⟩ := G.isBlt hb
        split at h
        · rename_i a
          rw [Option.map_eq_some_iff] at h
          obtain ⟨a', ea, e2⟩ := h
          subst e2
          exact ji_rng1 g1 g2 (S.e G ea).1 (by rw [star_cons (all1 hst)]; rfl)
        · rename_i a b
          obtain ⟨s1, s2⟩ := all2 hst
          split at h
          · rename_i a' b' ea eb
            cases h
            exact ji_rng2 g1 g2 (S.e G ea).1 (S.e G eb).1 (by rw [star_cons s1, star_cons s2]; rfl) (by rw [star_cons s2]; rfl)
          · cases h
        · cases h
      · cases h
    · split at h
      · rename_i ex
        subst ex
        split at h
        · rename_i hb
          simp only [Bool.and_eq_true] at hb
          obtain ⟨⟨hb, hst⟩, ht⟩ := hb
          obtain ⟨g1, g2, g3, g4⟩ := G.isBlt hb
          split at h
          · rename_i a
            rw [Option.map_eq_some_iff] at h
            obtain ⟨a', ea, e2⟩ := h
            subst e2
            cases tg with
            | Tuple es kk tp => exact ji_enu g1 g2 (S.e G ea).1 (by rw [star_cons (all1 hst)]; rfl)
            | _ => cases ht
          · cases h
        · cases h
      · split at h
        · rename_i ex
          subst ex
          split at h
          · rename_i hb
            simp only [Bool.and_eq_true] at hb
            obtain ⟨⟨hb, hst⟩, ht⟩ := hb
            obtain ⟨g1, g2, g3, g4⟩ := G.isBlt hb
            split at h
            · rename_i a b
              obtain ⟨s1, s2⟩ := all2 hst
              split at h
              · rename_i a' b' ea eb
                cases h
                cases tg with
                | Tuple es kk tp => exact ji_zip g1 g2 (S.e G ea).1 (S.e G eb).1 (star_cons s1 _ _) (by rw [star_cons s2]; rfl)
                | _ => cases ht
              · cases h
            · cases h
          · cases h
        · exact seq h
  · exact seq h
theorem tgs_len : ∀ (es : List Expr) (ts : Tgs) (n : Nat) (c : Ctx) (own : Option (List Nat)), cGs n c own es = some ts → tgsLen ts = es.length
  | [], ts, 0, c, own, h => by cases h
  | [], ts, n + 1, c, own, h => by
    simp only [cGs] at h
    cases h
    rfl
  | e :: es, ts, 0, c, own, h => by cases h
  | e :: es, ts, n + 1, c, own, h => by
    simp only [cGs] at h
    split at h
    · cases h
    · split at h
      · rename_i a b ea eb
        cases h
        show tgsLen b + 1 = _
        rw [tgs_len es b n c own eb]
        rfl
      · cases h
theorem tgs_nostar : ∀ (es : List Expr) (ts : Tgs) (n : Nat) (c : Ctx) (own : Option (List Nat)), cGs n c own es = some ts → (es.all fun a => !isStar a) = true
  | [], ts, n, c, own, h => rfl
  | e :: es, ts, 0, c, own, h => by cases h
  | e :: es, ts, n + 1, c, own, h => by
    simp only [cGs] at h
    split at h
    · cases h
    · rename_i hs
      split at h
      · rename_i a b ea eb
        rw [List.all_cons, tgs_nostar es b n c own eb]
        simpa using hs
      · cases h
theorem asg_cons {e : Expr} (h : isStar e = false) (es : List Expr) (env : Env) : assignEach (e :: es) env = (false, assign e env) :: assignEach es env := by
  cases e <;> first | rfl | cases h
theorem asg_len (es : List Expr) (env : Env) : (assignEach es env).length = es.length := by
  induction es with
  | nil => rfl
  | cons e es ih => cases e <;> simp [assignEach, ih]
theorem asg_find {es : List Expr} (h : (es.all fun a => !isStar a) = true) (env : Env) : (assignEach es env).findIdx? (·.1) = none := by
  induction es with
  | nil => rfl
  | cons e es ih =>
    rw [List.all_cons, Bool.and_eq_true] at h
    rw [asg_cons (by simpa using h.1), List.findIdx?_cons, ih h.2]
    rfl
theorem asg_sub {i : Expr} (h : isSlice i = false) (o : Expr) (pos : Pos) (env : Env) (v : Value) : assign (.Subscript o i pos) env v = (do
      let ov ← holding [v] (eval o env)
      let iv ← holding [v, ov] (eval i env)
      standAt pos
      holding [v, ov, iv] (setItem ov iv v)
      release [v, ov, iv] []) := by
  cases i <;> first | rfl | cases h
theorem snd_g (S : Snd T ca Pg gl cf k n) (G : GX T ca Pg gl cf k c X E) {x : Expr} {ir : Tg} (h : cG (n + 1) c none x = some ir) : PG X x (gM X.K T ca (cW E) (evG Pg cf ir)) := by
  unfold cG at h
  split at h
  · rename_i xn px
    split at h
    · rename_i i ei
      cases h
      obtain ⟨g1, g2, g3⟩ := G.tgt ei
      exact jg_nm G.nd g1 g2 g3
    · cases h
  · rename_i es kk pos
    rw [Option.map_eq_some_iff] at h
    obtain ⟨ts, et, e2⟩ := h
    subst e2
    exact jg_tp G.calm (S.gs G et) (asg_len _ _) (asg_find (tgs_nostar _ _ _ _ _ et) _) (tgs_len _ _ _ _ _ et)
  · rename_i o i pos
    dsimp only at h
    split at h
    · cases h
    · rename_i hs
      split at h
      · rename_i o' i' eo ei
        cases h
        exact jg_sb G.hu (S.e G eo).1 (S.e G ei).1 (asg_sub (by simpa using hs) o pos X.env)
      · cases h
  · cases h
theorem snd_gs (S : Snd T ca Pg gl cf k n) (G : GX T ca Pg gl cf k c X E) {xs : List Expr} {ir : Tgs} (h : cGs (n + 1) c none xs = some ir) : PGs X xs (gsM X.K T ca (cW E) (evGs Pg cf ir)) := by
  cases xs with
  | nil =>
    simp only [cGs] at h
    cases h
    exact jgs_nil
  | cons e r =>
    simp only [cGs] at h
    split at h
    · cases h
    · rename_i hs
      split at h
      · rename_i a b ea eb
        cases h
        exact jgs_cons (S.g G ea) (S.gs G eb) (by rw [asg_cons (by simpa using hs)]; rfl)
      · cases h
theorem snd_go (S : Snd T ca Pg gl cf k n) (G : GX T ca Pg gl cf k c X E) {x : Expr} {own : List Nat} {ir : Tg} (h : cG (n + 1) c (some own) x = some ir) : PG X x (gO X.K T ca own (evG Pg cf ir)) := by
  unfold cG at h
  split at h
  · rename_i xn px
    split at h
    · rename_i i ei
      obtain ⟨g1, g2, g3⟩ := G.tgt ei
      dsimp only at h
      split at h
      · rename_i hi
        cases h
        exact jgo_nm G.nd g1 g2 g3 (by simpa using hi)
      · cases h
    · cases h
  · rename_i es kk pos
    rw [Option.map_eq_some_iff] at h
    obtain ⟨ts, et, e2⟩ := h
    subst e2
    exact jgo_tp G.calm (S.gso G et) (asg_len _ _) (asg_find (tgs_nostar _ _ _ _ _ et) _) (tgs_len _ _ _ _ _ et)
  · cases h
  · cases h
theorem snd_gso (S : Snd T ca Pg gl cf k n) (G : GX T ca Pg gl cf k c X E) {xs : List Expr} {own : List Nat} {ir : Tgs} (h : cGs (n + 1) c (some own) xs = some ir) : PGs X xs (gsO X.K T ca own (evGs Pg cf ir)) := by
  cases xs with
  | nil =>
    simp only [cGs] at h
    cases h
    exact jgos_nil
  | cons e r =>
    simp only [cGs] at h
    split at h
    · cases h
    · rename_i hs
      split at h
      · rename_i a b ea eb
        cases h
        exact jgos_cons (S.go G ea) (S.gso G eb) (by rw [asg_cons (by simpa using hs)]; rfl)
      · cases h
theorem snd_c (S : Snd T ca Pg gl cf k n) (G : GX T ca Pg gl cf k c X E) {el : Expr} {gens : List Comprehension} {scope : Scope} {r : MI.E × Tg × I × Es × List Nat} (h : cC (n + 1) c el gens scope = some r) :
    ∃ tg it ifs, gens = [⟨tg, it, ifs, 0⟩] ∧ r.2.2.2.2 = (ownOf c.N scope).map (·.2) ∧ PI X tg it (iM X.K T ca (cW E) (evI Pg cf r.2.2.1)) ∧ BlkOk X.N X.env.scope scope (ownOf c.N scope) ∧
      (∀ (s : Shared) (H : Hp) (C : Addr) (cl : List (Str × Addr)) (fp : List Addr), PG (X.blk s H scope (compEnvC scope cl C X.env) fp) tg (gO X.K T ca ((ownOf c.N scope).map (·.2)) (evG Pg cf r.2.1))) ∧
      (∀ (s : Shared) (H : Hp) (C : Addr) (cl : List (Str × Addr)) (fp : List Addr), PTs (X.blk s H scope (compEnvC scope cl C X.env) fp) ifs (tsM X.K T ca W0 (evEs Pg cf r.2.2.2.1))) ∧
      (∀ (s : Shared) (H : Hp) (C : Addr) (cl : List (Str × Addr)) (fp : List Addr), PE (X.blk s H scope (compEnvC scope cl C X.env) fp) el (tM X.K T ca W0 (evE Pg cf r.1))) ∧ ∀ x, foldedSetIterable it X.env x = pure x := by
  unfold cC at h
  split at h
  · rename_i tg it ifs
    split at h
    · rename_i hb
      simp only [Bool.and_eq_true, decide_eq_true_eq] at hb
      obtain ⟨⟨hb, hset⟩, hl⟩ := hb
      have ok := blkOk_by hb
      split at h
      · rename_i it' tg' ifs' el' e1 e2 e3 e4
        cases h
        refine ⟨tg, it, ifs, rfl, rfl, S.i G e1, by rw [G.N, G.sc]; exact ok, fun s H C cl fp => S.go (G.blk ok s H C cl fp) e2, fun s H C cl fp => ?_, fun s H C cl fp => (S.e (G.blk ok s H C cl fp) e4).1, folded_no (by simpa using hset) _⟩
        exact S.ts (G.blk ok s H C cl fp) e3 hl
      · cases h
    · cases h
  · cases h
end
end MI

namespace MI
open PySem PyProof.Rows L2
section
variable {T : List (Addr × Str)} {ca : Str → Option Addr} {Pg : Prog} {gl : List (Str × Gk)} {cf : Str → List A → AH → R A} {k n : Nat} {c : Ctx} {X : Cx} {E : XK}
/-- as a value, and so as a test -/
theorem both {x : Expr} {m : ASt → AH → R A} (h : PE X x (tM X.K T ca (cW E) m)) (he : ∀ whole, isTrue x X.env whole = (do let v ← whole; standAt x.pos; holding [v] (truthy v))) : PE X x (tM X.K T ca (cW E) m) ∧ PT X x (bM X.K T ca (cW E) m) := ⟨h, jt_val h he⟩
theorem es_cons (S : Snd T ca Pg gl cf k n) (G : GX T ca Pg gl cf k c X E) {e : Expr} {es : List Expr} {ir : Es} (h : cEs n c (e :: es) = some ir) : isStar e = false := by
  cases n with
  | zero => cases h
  | succ n =>
    simp only [cEs] at h
    split at h
    · cases h
    · rename_i hs
      simpa using hs
theorem snd_call (S : Snd T ca Pg gl cf k n) (G : GX T ca Pg gl cf k c X E) {x : Str} {args : List Expr} {p pos : Pos} {ir : MI.E} (h : cE (n + 1) c (.Call (.Name x p) args [] pos) = some ir) :
    PE X (.Call (.Name x p) args [] pos) (tM X.K T ca (cW E) (evE Pg cf ir)) := by
  simp only [cE] at h
  split at h
  · rename_i hg
    rw [Bool.and_eq_true] at hg
    obtain ⟨hg, hst⟩ := hg
    obtain ⟨g1, g2, g3⟩ := G.isGl hg
    split at h
    · -- isinstance
      rename_i ex
      subst ex
      split at h
      · rename_i a t pt
        split at h
        · rename_i ty a' et ea
          split at h
          · rename_i hb
            rw [Bool.and_eq_true] at hb
            cases h
            obtain ⟨b1, b2, b3, b4⟩ := G.isBlt hb.1
            obtain ⟨c1, c2, c3, c4⟩ := G.isBlt hb.2
            have hs : isStar a = false := by
              rw [List.all_cons, Bool.and_eq_true] at hst
              simpa using hst.1
            exact je_isi (S.e G ea).1 b1 b2 c1 c2 (ty_ok et) c4 c3 (star_cons hs _ _)
          · cases h
        · cases h
      · cases h
    · split at h
      · -- told
        rename_i ex
        subst ex
        split at h
        · rename_i ps body scope lpos
          split at h
          · rename_i hb
            rw [Option.map_eq_some_iff] at h
            obtain ⟨b', eb, e2⟩ := h
            subst e2
            simp only [Bool.and_eq_true] at hb
            obtain ⟨⟨⟨⟨⟨⟨⟨⟨hl, p1⟩, p2⟩, p3⟩, p4⟩, p5⟩, p6⟩, p7⟩, hls⟩ := hb
            obtain ⟨cc, P', t1, t2, t3, t4, t5⟩ := G.lam hl
            have LS : LamX.LamS X.env.scope scope := by
              rw [G.sc]
              exact LamX.lamS_by hls
            refine G.facts.told X E cc P' scope ps body lpos p pos (evE Pg cf b') rfl rfl rfl rfl rfl g1 t1 t2 t3 t4 t5 LS (by unfold noParams; simp only [p1, p2, p3, p4, p5, p6, p7, Bool.and_true]) fun A outer s H E' f c' hr => ?_
            have G' : GX T ca Pg gl cf k { c with sc := scope, own := some scope, lam := false } (lamCx X A outer s H E' scope f c') E' := {
              facts := G.facts
              N := G.N
              nd := G.nd
              sc := rfl
              kd := LS.kind
              fn := fun y => ⟨(fun z => by cases z), (fun o e hc => by
                cases e
                have hm : scope.names.lookup y = some .cell := by simpa using hc
                exact absurd rfl (LS.own _ (PySem.mem_of_lookup hm)).2)⟩
              calm := rfl
              tk := L2N.takes_of rfl rfl rfl rfl
              room := hr
              gl := G.gl
              lam := fun z => by cases z }
            exact (S.e G' eb).1
          · cases h
        · cases h
      · split at h
        · exact S.x G h
        rename_i hnx
        split at h
        · -- a def
          rename_i key ek
          split at h
          · cases h
          · rename_i hne
            rw [Option.map_eq_some_iff] at h
            obtain ⟨es', ee, e2⟩ := h
            subst e2
            rw [G.gl] at ek
            obtain ⟨f, fd, ps, f1, f2, f3, f4, f5⟩ := G.facts.fn x key ek
            cases args with
            | nil => exact absurd rfl hne
            | cons a r =>
              have hs := es_cons S G ee
              have hr : (r.all fun a => !isStar a) = true := by
                rw [List.all_cons, Bool.and_eq_true] at hst
                exact hst.2
              exact je_call f4 f5 (G.room.mono (Nat.le_succ _)) G.tk g1 f1 f2 f3 (S.es G ee) g2 (star_cons hs _ _) (star_any hr _ _)
        · -- a class
          rename_i cn ek
          rw [Option.map_eq_some_iff] at h
          obtain ⟨es', ee, e2⟩ := h
          subst e2
          rw [G.gl] at ek
          obtain ⟨C, ci, g, f, fd, ps, f1, f2, f3, f4, f5, f6, f7, f8⟩ := G.facts.cls x cn ek
          have ev : evE Pg cf (.make cn es') = fun s h => (evEs Pg cf es' s h).bind fun vs h1 => (cf g (.loc h1.length :: vs) (h1 ++ [.ins cn []])).bind fun v h2 => match v with | .non => .ok (.loc h1.length) h2 | _ => .bad := by
            funext s h
            simp only [evE, f3, f4] <;> rfl
          rw [ev]
          cases args with
          | nil =>
            cases n with
            | zero => cases ee
            | succ n =>
              simp only [cEs] at ee
              cases ee
              exact je_make0 f5 f7 f8 G.room G.tk g1 f1 f2 f6 g2
          | cons a r =>
            have hs := es_cons S G ee
            have hr : (r.all fun a => !isStar a) = true := by
              rw [List.all_cons, Bool.and_eq_true] at hst
              exact hst.2
            exact je_make (Pg := Pg) (ci := ci) (g := g) f5 f7 f8 G.room G.tk g1 f1 f2 f6 (S.es G ee) g2 (star_cons hs _ _) (star_any hr _ _)
        · cases h
        · -- a built-in one
          rename_i en
          split at h
          · rename_i b a r eb
            split at h
            · rename_i hb
              obtain ⟨b1, b2, b3, b4⟩ := G.isBlt hb
              rw [Option.map_eq_some_iff] at h
              obtain ⟨es', ee, e2⟩ := h
              subst e2
              have hs := es_cons S G ee
              have hr : (r.all fun a => !isStar a) = true := by
                rw [List.all_cons, Bool.and_eq_true] at hst
                exact hst.2
              rcases bn_ok (T := T) (ca := ca) G.calm eb with ⟨id, h1, h2⟩ | ⟨id, h1, h2⟩
              · exact je_cb h2 b1 b2 h1 (S.es G ee) b4 b3 (star_cons hs _ _) (star_any hr _ _)
              · exact je_ct h2 b1 b2 h1 (S.es G ee) b4 b3 (star_cons hs _ _) (star_any hr _ _)
            · cases h
          · cases h
  · cases h
theorem snd_meth (S : Snd T ca Pg gl cf k n) (G : GX T ca Pg gl cf k c X E) {o : Expr} {m : Str} {args : List Expr} {apos pos : Pos} {ir : MI.E} (h : cE (n + 1) c (.Call (.Attribute o m apos) args [] pos) = some ir) :
    PE X (.Call (.Attribute o m apos) args [] pos) (tM X.K T ca (cW E) (evE Pg cf ir)) := by
  simp only [cE] at h
  split at h
  · rename_i hg
    simp only [Bool.and_eq_true, decide_eq_true_eq] at hg
    obtain ⟨⟨⟨h0, hl⟩, hst⟩, hn⟩ := hg
    have h0 : isCall0 o = false := by simpa using h0
    have hline : (apos.endLine == pos.line) = true := by simpa using hl
    split at h
    · rename_i o' eo
      have ho := (S.e G eo).1
      split at h
      · -- get
        rename_i eb
        have em : m = "get" := by
          unfold bmOf at eb
          split at eb; · cases eb
          split at eb; · cases eb
          split at eb
          · assumption
          split at eb; · cases eb
          · cases eb
        subst em
        split at h
        · rename_i a b
          rw [Option.map_eq_some_iff] at h
          obtain ⟨es', ee, e2⟩ := h
          subst e2
          obtain ⟨s1, s2⟩ := all2 hst
          exact je_get G.hu ho (S.es G ee) (attr_base h0 _ _ _) hline (star_cons s1 _ _) (by rw [star_cons s2]; rfl)
        · cases h
      · rename_i b hb eb
        split at h
        · rename_i a
          rw [Option.map_eq_some_iff] at h
          obtain ⟨es', ee, e2⟩ := h
          subst e2
          have s1 := all1 hst
          have hs := star_cons s1 [] X.env
          unfold bmOf at eb
          split at eb
          · rename_i em; subst em; cases eb; exact je_append ho (S.es G ee) (attr_base h0 _ _ _) hline hs
          split at eb
          · rename_i em; subst em; cases eb; exact je_index ho (S.es G ee) (attr_base h0 _ _ _) hline hs
          split at eb
          · cases eb; exact absurd rfl hb
          split at eb
          · rename_i em; subst em; cases eb; exact je_join ho (S.es G ee) (attr_base h0 _ _ _) hline hs
          · cases eb
        · cases h
      · -- a method of one's own
        rename_i eb
        rw [Option.map_eq_some_iff] at h
        obtain ⟨es', ee, e2⟩ := h
        subst e2
        have ht := meth_ht (env := X.env) (mn := m) h0 hst hn hl
        cases args with
        | nil =>
          cases n with
          | zero => cases ee
          | succ n =>
            simp only [cEs] at ee
            cases ee
            exact je_meth0 ho (fun c ci g h1 h2 => G.facts.meth m c ci g h1 h2) (G.room.mono (Nat.le_succ _)) G.tk ht
        | cons a r =>
          have hs := es_cons S G ee
          have hr : (r.all fun a => !isStar a) = true := by
            rw [List.all_cons, Bool.and_eq_true] at hst
            exact hst.2
          exact je_meth ho (fun c ci g h1 h2 => G.facts.meth m c ci g h1 h2) (G.room.mono (Nat.le_succ _)) G.tk (S.es G ee) (star_cons hs _ _) (star_any hr _ _) ht
    · cases h
  · cases h
theorem snd_e (S : Snd T ca Pg gl cf k n) (G : GX T ca Pg gl cf k c X E) {x : Expr} {ir : MI.E} (h : cE (n + 1) c x = some ir) : PE X x (tM X.K T ca (cW E) (evE Pg cf ir)) ∧ PT X x (bM X.K T ca (cW E) (evE Pg cf ir)) := by
  cases x with
  | Constant kk j pos =>
    refine both ?_ fun _ => rfl
    simp only [cE] at h
    cases kk with
    | int i => cases h; exact je_c pe_int fun _ _ _ => .int i
    | str z => cases h; exact je_c pe_str fun _ _ _ => .str z
    | bool b => cases h; exact je_c pe_bl fun _ _ _ => .bl b
    | none => cases h; exact je_c pe_non fun _ _ _ => .non
    | _ => cases h
  | Name x p =>
    refine both ?_ fun _ => rfl
    simp only [cE] at h
    split at h
    · rename_i i ei
      cases h
      obtain ⟨g1, g2, g3, g4⟩ := G.slot ei
      exact je_var g1 g2 g3 g4
    · split at h
      · rename_i hg
        obtain ⟨g1, g2, g3⟩ := G.isGl hg
        split at h
        · rename_i a ea
          cases h
          rw [G.gl] at ea
          obtain ⟨v, u, h1, h2, h3⟩ := G.facts.val x a ea
          exact je_c (pe_glob g1 h1 h2 g2) h3
        · cases h
      · cases h
  | BinOp a op b p =>
    refine both ?_ fun _ => rfl
    simp only [cE] at h
    split at h
    · rename_i a' b' ea eb
      cases h
      exact je_bin (oa_all op) (S.e G ea).1 (S.e G eb).1
    · cases h
  | UnaryOp op a p =>
    cases op with
    | Not =>
      simp only [cE, Option.map_eq_some_iff] at h
      obtain ⟨a', ea, e2⟩ := h
      subst e2
      exact ⟨je_not (S.e G ea).1, jt_not (S.e G ea).2⟩
    | USub =>
      refine both ?_ fun _ => rfl
      simp only [cE, Option.map_eq_some_iff] at h
      obtain ⟨a', ea, e2⟩ := h
      subst e2
      exact je_neg (S.e G ea).1
    | _ =>
      simp only [cE] at h
      cases h
  | Compare a ops bs p =>
    cases ops with
    | nil =>
      simp only [cE] at h
      cases h
    | cons op ops =>
      cases bs with
      | nil =>
        cases ops with
        | nil => simp only [cE] at h; cases h
        | cons _ ops =>
          cases ops with
          | nil => simp only [cE] at h; cases h
          | cons _ _ => simp only [cE] at h; cases h
      | cons b bs =>
        cases ops with
        | nil =>
          cases bs with
          | cons _ _ => simp only [cE] at h; cases h
          | nil =>
            simp only [cE] at h
            split at h
            · cases h
            · rename_i hm
              split at h
              · rename_i a' b' ea eb
                cases h
                exact ⟨je_cmp G.hu (S.e G ea).1 (S.e G eb).1 (by simpa using hm), jt_cmp G.hu (S.e G ea).1 (S.e G eb).1 (by simpa using hm)⟩
              · cases h
        | cons op' ops =>
          cases ops with
          | cons _ _ => simp only [cE] at h; cases h
          | nil =>
            cases bs with
            | nil => simp only [cE] at h; cases h
            | cons d bs =>
              cases bs with
              | cons _ _ => simp only [cE] at h; cases h
              | nil =>
                simp only [cE] at h
                split at h
                · cases h
                · rename_i hm
                  split at h
                  · rename_i a' b' d' ea eb ed
                    cases h
                    exact ⟨je_chn G.hu (S.e G ea).1 (S.e G eb).1 (S.e G ed).1 (by simpa using hm), jt_chn G.hu (S.e G ea).1 (S.e G eb).1 (S.e G ed).1 (by simpa using hm)⟩
                  · cases h
  | BoolOp op vs p =>
    cases vs with
    | nil => simp only [cE] at h; cases h
    | cons v vs =>
      cases vs with
      | nil => simp only [cE] at h; cases h
      | cons v2 vs =>
        simp only [cE] at h
        obtain ⟨h1, h2⟩ := S.b (pos := p) G h
        have em : mB (evE Pg cf ir) = evE Pg cf ir := by
          cases n with
          | zero => cases h
          | succ n =>
            simp only [cB] at h
            split at h
            · rename_i a b ea eb
              cases op with
              | And => cases h; exact mB_and
              | Or => cases h; exact mB_or
            · cases h
        rw [em] at h1 h2
        exact ⟨h1, h2.pt⟩
  | IfExp t a b p =>
    simp only [cE] at h
    split at h
    · rename_i t' a' b' et ea eb
      cases h
      exact ⟨je_if (S.e G et).2 (S.e G ea).1 (S.e G eb).1, jt_if (S.e G et).2 (S.e G ea).2 (S.e G eb).2⟩
    · cases h
  | Call f args kws pos =>
    cases kws with
    | cons _ _ =>
      simp only [cE] at h
      cases h
    | nil =>
      cases f with
      | Name x p => exact both (snd_call S G h) fun _ => rfl
      | Attribute o m apos => exact both (snd_meth S G h) fun _ => rfl
      | _ =>
        simp only [cE] at h
        cases h
  | Attribute o f p =>
    refine both ?_ fun _ => rfl
    simp only [cE] at h
    split at h
    · cases h
    · rename_i h0
      rw [Option.map_eq_some_iff] at h
      obtain ⟨o', eo, e2⟩ := h
      subst e2
      exact je_fld G.facts.clsOk (S.e G eo).1 (attr_base (by simpa using h0) _ _ _)
  | Subscript a b p =>
    refine both ?_ fun _ => rfl
    have plain : isSlice b = false → (match cE n c a, cE n c b with | some a, some b => some (MI.E.ix a b) | _, _ => none) = some ir → PE X (.Subscript a b p) (tM X.K T ca (cW E) (evE Pg cf ir)) := fun hs h => by
      split at h
      · rename_i a' b' ea eb
        cases h
        exact je_ix G.hu (S.e G ea).1 (S.e G eb).1 (plain_ix hs)
      · cases h
    cases b with
    | Slice lo hi st sp =>
      cases st with
      | none =>
        simp only [cE] at h
        split at h
        · rename_i a' lo' hi' ea el eh
          cases h
          exact je_sl (S.e G ea).1 (S.o G el) (S.o G eh)
        · cases h
      | some _ =>
        simp only [cE, isSlice] at h
        cases h
    | _ =>
      simp only [cE, isSlice] at h
      exact plain rfl h
  | List es p =>
    refine both ?_ fun _ => rfl
    simp only [cE, Option.map_eq_some_iff] at h
    obtain ⟨es', ee, e2⟩ := h
    subst e2
    exact je_lst (S.es G ee)
  | Dict ks vs p =>
    refine both ?_ fun _ => rfl
    simp only [cE] at h
    split at h
    · rename_i h15
      rw [Option.map_eq_some_iff] at h
      obtain ⟨es', ee, e2⟩ := h
      subst e2
      obtain ⟨d1, ⟨d2, d3⟩, d4⟩ := S.d (pos := p) G ee
      cases ks with
      | nil =>
        cases d4 rfl
        cases vs with
        | nil => exact je_dic0
        | cons v vs => cases d3
      | cons kk ks => exact je_dic d1 d2 d3 (fun z => by cases z) (of_decide_eq_true h15)
    · cases h
  | Tuple es kk p =>
    refine both ?_ fun _ => rfl
    simp only [cE, Option.map_eq_some_iff] at h
    obtain ⟨es', ee, e2⟩ := h
    subst e2
    exact je_tup (S.es G ee)
  | ListComp el gens scope p =>
    refine both ?_ fun _ => rfl
    simp only [cE] at h
    split at h
    · rename_i el' tg' it' ifs' own' ec
      cases h
      obtain ⟨tg, it, ifs, e1, e2, h1, h2, h3, h4, h5, h6⟩ := S.c G ec
      subst e1
      dsimp only at e2
      subst e2
      exact je_comp G.calm G.nd h1 h2 h3 h4 h5 h6
    · cases h
  | _ =>
    simp only [cE] at h
    cases h
theorem snd (T : List (Addr × Str)) (ca : Str → Option Addr) (Pg : Prog) (gl : List (Str × Gk)) (cf : Str → List A → AH → R A) (k : Nat) : ∀ n, Snd T ca Pg gl cf k n
  | 0 => {
    e := fun _ h => by cases h
    b := fun _ h => by cases h
    es := fun _ h => by cases h
    ts := fun _ h => by cases h
    x := fun _ h => by cases h
    d := fun _ h => by cases h
    o := fun _ h => by cases h
    i := fun _ h => by cases h
    g := fun _ h => by cases h
    gs := fun _ h => by cases h
    go := fun _ h => by cases h
    gso := fun _ h => by cases h
    c := fun _ h => by cases h }
  | n + 1 => {
    e := fun G h => snd_e (snd T ca Pg gl cf k n) G h
    b := fun G h => snd_b (snd T ca Pg gl cf k n) G h
    es := fun G h => snd_es (snd T ca Pg gl cf k n) G h
    ts := fun G h hl => snd_ts (snd T ca Pg gl cf k n) G h hl
    x := fun G h => snd_x (snd T ca Pg gl cf k n) G h
    d := fun G h => snd_d (snd T ca Pg gl cf k n) G h
    o := fun G h => snd_o (snd T ca Pg gl cf k n) G h
    i := fun G h => snd_i (snd T ca Pg gl cf k n) G h
    g := fun G h => snd_g (snd T ca Pg gl cf k n) G h
    gs := fun G h => snd_gs (snd T ca Pg gl cf k n) G h
    go := fun G h => snd_go (snd T ca Pg gl cf k n) G h
    gso := fun G h => snd_gso (snd T ca Pg gl cf k n) G h
    c := fun G h => snd_c (snd T ca Pg gl cf k n) G h }
end
end MI

namespace MI
open PySem PyProof.Rows L2
section
variable {T : List (Addr × Str)} {ca : Str → Option Addr} {Pg : Prog} {gl : List (Str × Gk)} {cf : Str → List A → AH → R A} {k n : Nat} {c : Ctx} {X : Cx} {E : XK}
theorem blockKind_fn {env : Env} (h : env.scope.kind = .function) : (env.blockKind != .function) = false := by
  unfold Env.blockKind
  rw [h]
  rfl
/-- the names that a swapped store would store, as the model reads them off -/
def swNames (env : Env) (ts : List Expr) : List Str := ts.filterMap fun
    | .Name id pos => if env.kindOf id == some .local && pos.line == (ts.head?.map (·.pos.line)).getD 0 then some id else none
    | _ => none
theorem swap_eq (env : Env) (ts vs : List Expr) (kt k2 : Nat) (pt pt2 : Pos) : swappedStores [.Tuple ts kt pt] (.Tuple vs k2 pt2) env = (do
    if !(ts.length == 2 || ts.length == 3) || vs.length != ts.length || env.blockKind != .function then return none
    if vs.any fun | .Starred .. => true | _ => false then return none
    if (swNames env ts).length != ts.length || (swNames env ts).eraseDups.length != (swNames env ts).length then return none
    if vs.all (foldedForSure 8) then return none
    if vs.all (constantsAlone 8) then unsupported "assign.tuple-of-constant-expressions:order-of-the-stores"
    return some (swNames env ts)) := rfl
theorem names_len {env : Env} {l : Nat} : ∀ {ts : List Expr}, (ts.filterMap fun
    | .Name id pos => if env.kindOf id == some .local && pos.line == l then some id else none
    | _ => none).length = ts.length → ∃ ns, namesOf ts = some ns ∧ ∀ x ∈ ns, env.kindOf x = some .local
  | [], _ => ⟨[], rfl, fun x h => by cases h⟩
  | t :: ts, h => by
    have le : ∀ us : List Expr, (us.filterMap fun
        | .Name id pos => if env.kindOf id == some .local && pos.line == l then some id else none
        | _ => none).length ≤ us.length := fun us => List.length_filterMap_le _ _
    have h2 := le ts
    cases t with
    | Name id pos =>
      rw [List.filterMap_cons] at h
      dsimp only at h
      split at h
      · simp only [List.length_cons] at h
        omega
      · rename_i b eb
        simp only [List.length_cons] at h
        obtain ⟨ns, e1, e2⟩ := names_len (env := env) (l := l) (ts := ts) (by omega)
        refine ⟨id :: ns, by simp [namesOf, e1], fun x hx => ?_⟩
        rcases List.mem_cons.mp hx with z | z
        · subst z
          split at eb
          · rename_i hc
            rw [Bool.and_eq_true] at hc
            simpa using hc.1
          · cases eb
        · exact e2 x z
    | _ =>
      simp only [List.filterMap_cons, List.length_cons] at h
      omega
theorem noStar_any {vs : List Expr} (h : (vs.all fun v => !isStar v) = true) : (vs.any fun | .Starred .. => true | _ => false) = false := by
  induction vs with
  | nil => rfl
  | cons v vs ih =>
    rw [List.all_cons, Bool.and_eq_true] at h
    rw [List.any_cons, ih h.2]
    cases v <;> first | rfl | (have := h.1; simp [isStar] at this)
theorem unswap {tgs vs : List Expr} (hsc : X.env.scope = c.sc) (hkd : c.sc.kind = .function) (h : unswapped c tgs vs = true) (kt k2 : Nat) (pt pt2 : Pos) : swappedStores [.Tuple tgs kt pt] (.Tuple vs k2 pt2) X.env = pure none := by
  rw [swap_eq]
  unfold unswapped at h
  rw [Bool.and_eq_true, Bool.or_eq_true] at h
  obtain ⟨hst, h⟩ := h
  by_cases c1 : (!(tgs.length == 2 || tgs.length == 3) || vs.length != tgs.length || X.env.blockKind != .function) = true
  · rw [if_pos c1]
  rw [if_neg c1]
  have c1 : (!(tgs.length == 2 || tgs.length == 3) || vs.length != tgs.length || X.env.blockKind != .function) = false := by simpa using c1
  simp only [Bool.or_eq_false_iff] at c1
  rw [noStar_any hst, if_neg Bool.false_ne_true]
  by_cases c2 : ((swNames X.env tgs).length != tgs.length || (swNames X.env tgs).eraseDups.length != (swNames X.env tgs).length) = true
  · rw [if_pos c2]
  rw [if_neg c2]
  have c2 : ((swNames X.env tgs).length != tgs.length || (swNames X.env tgs).eraseDups.length != (swNames X.env tgs).length) = false := by simpa using c2
  rw [Bool.or_eq_false_iff] at c2
  by_cases c3 : vs.all (foldedForSure 8) = true
  · rw [if_pos c3]
  exfalso
  rcases h with h | h
  · rw [c1.1.2] at h
    cases h
  · have hl : (swNames X.env tgs).length = tgs.length := by simpa using c2.1
    obtain ⟨ns, e1, e2⟩ := names_len hl
    rw [e1] at h
    dsimp only at h
    rw [Bool.or_eq_true] at h
    rcases h with h | h
    · have h : (ns.all fun x => decide (c.sc.names.lookup x = some .local)) = false := by simpa using h
      rw [List.all_eq_false] at h
      obtain ⟨x, hx, hn⟩ := h
      apply hn
      have := e2 x hx
      unfold Env.kindOf at this
      rw [hsc] at this
      simpa using this
    · exact c3 h
theorem erase_nodup : ∀ {l : List Str}, l.Nodup → l.eraseDups = l
  | [], _ => rfl
  | x :: l, h => by
    rw [List.nodup_cons] at h
    rw [List.eraseDups_cons]
    have : l.filter (fun b => !b == x) = l := by
      rw [List.filter_eq_self]
      intro a ha
      have : a ≠ x := fun z => h.1 (z ▸ ha)
      simpa using this
    rw [this, erase_nodup h.2]
theorem names_of : ∀ {ts : List Expr} {ns : List Str}, namesOf ts = some ns → ts.length = ns.length
  | [], _, h => by cases h; rfl
  | t :: ts, _, h => by
    cases t with
    | Name x p =>
      simp only [namesOf, Option.map_eq_some_iff] at h
      obtain ⟨ms, e1, e2⟩ := h
      subst e2
      simp [names_of e1]
    | _ => cases h
theorem sw_names {l : Nat} {env : Env} (hsc : env.scope = c.sc) : ∀ {ts : List Expr} {ns : List Str}, namesOf ts = some ns → (ns.all fun x => decide (c.sc.names.lookup x = some .local)) = true → (ts.all fun t => t.pos.line == l) = true → (ts.filterMap fun
    | .Name id pos => if env.kindOf id == some .local && pos.line == l then some id else none
    | _ => none) = ns
  | [], _, h, _, _ => by cases h; rfl
  | t :: ts, _, h, h2, h3 => by
    cases t with
    | Name x p =>
      simp only [namesOf, Option.map_eq_some_iff] at h
      obtain ⟨ms, e1, e2⟩ := h
      subst e2
      rw [List.all_cons, Bool.and_eq_true] at h2 h3
      rw [List.filterMap_cons]
      dsimp only
      have hk : (env.kindOf x == some .local && p.line == l) = true := by
        rw [Bool.and_eq_true]
        refine ⟨?_, h3.1⟩
        unfold Env.kindOf
        rw [hsc]
        simpa using h2.1
      rw [if_pos hk, sw_names hsc e1 h2.2 h3.2]
    | _ => cases h
theorem swap_some {tgs vs : List Expr} {ns : List Str} (hsc : X.env.scope = c.sc) (hkd : c.sc.kind = .function) (h : swapped c tgs vs = some ns) (kt k2 : Nat) (pt pt2 : Pos) :
    (tgs.length = 2 ∨ tgs.length = 3) ∧ vs.length = tgs.length ∧ namesOf tgs = some ns ∧ (∀ x ∈ ns, c.sc.names.lookup x = some .local) ∧ ns.Nodup ∧ ((vs.any fun | .Starred .. => true | _ => false) = false → swappedStores [.Tuple tgs kt pt] (.Tuple vs k2 pt2) X.env = pure (some ns)) := by
  unfold swapped at h
  split at h
  · rename_i hl
    rw [Bool.and_eq_true, Bool.or_eq_true] at hl
    split at h
    · rename_i ms em
      split at h
      · rename_i hb
        cases h
        simp only [Bool.and_eq_true, decide_eq_true_eq, Bool.not_eq_true'] at hb
        obtain ⟨⟨⟨⟨h1, h2⟩, h3⟩, h4⟩, h5⟩ := hb
        have hsw : swNames X.env tgs = ns := sw_names hsc em h1 h3
        refine ⟨by rcases hl.1 with z | z <;> simp at z <;> omega, by simpa using hl.2, em, fun x hx => ?_, h2, fun hst => ?_⟩
        · have := List.all_eq_true.mp h1 x hx
          simpa using this
        · rw [swap_eq, hsw, hst]
          have hlen := names_of em
          have e1 : (!(tgs.length == 2 || tgs.length == 3) || vs.length != tgs.length || X.env.blockKind != .function) = false := by
            rw [blockKind_fn (by rw [hsc]; exact hkd)]
            have hl2 : (vs.length != tgs.length) = false := by simpa using hl.2
            have hl1 : (tgs.length == 2 || tgs.length == 3) = true := by
              rw [Bool.or_eq_true]
              exact hl.1
            rw [hl1, hl2]
            rfl
          have e2 : (ns.length != tgs.length || ns.eraseDups.length != ns.length) = false := by
            rw [hlen, erase_nodup h2]
            simp
          rw [e1, if_neg Bool.false_ne_true, if_neg Bool.false_ne_true, e2, if_neg Bool.false_ne_true, h4, if_neg Bool.false_ne_true, h5]
          rfl
      · cases h
    · cases h
  · cases h
theorem es_nostar : ∀ (es : List Expr) (n : Nat) (ir : Es), cEs n c es = some ir → (es.all fun a => !isStar a) = true
  | [], n, ir, h => rfl
  | e :: es, 0, ir, h => by cases h
  | e :: es, n + 1, ir, h => by
    simp only [cEs] at h
    split at h
    · cases h
    · rename_i hs
      split at h
      · rename_i a b ea eb
        rw [List.all_cons, es_nostar es n b eb]
        simpa using hs
      · cases h
structure SndS (T : List (Addr × Str)) (ca : Str → Option Addr) (Pg : Prog) (gl : List (Str × Gk)) (cf : Str → List A → AH → R A) (k n : Nat) : Prop where
  s : ∀ {c : Ctx} {X : Cx} {E : XK} {x : Stmt} {ir : MI.S}, GX T ca Pg gl cf k c X E → PassesOwn (model X.prog X.w) X.A X.env X.xe → cS n c x = some ir → PS X x (sM X.K T ca E (evS Pg cf ir))
  ss : ∀ {c : Ctx} {X : Cx} {E : XK} {x : List Stmt} {ir : Ss}, GX T ca Pg gl cf k c X E → PassesOwn (model X.prog X.w) X.A X.env X.xe → cSs n c x = some ir → PSs X x (sM X.K T ca E (evSs Pg cf ir))
theorem snd_ss (S : SndS T ca Pg gl cf k n) (G : GX T ca Pg gl cf k c X E) (hp : PassesOwn (model X.prog X.w) X.A X.env X.xe) {x : List Stmt} {ir : Ss} (h : cSs (n + 1) c x = some ir) : PSs X x (sM X.K T ca E (evSs Pg cf ir)) := by
  cases x with
  | nil =>
    simp only [cSs] at h
    cases h
    exact js_nil
  | cons st r =>
    simp only [cSs] at h
    split at h
    · rename_i a b ea eb
      cases h
      exact js_cons (S.s G hp ea) (S.ss G hp eb)
    · cases h
theorem asg_one {t : Expr} (h : isStar t = false) (env : Env) : (assignEach [t] env).map (·.2) = [assign t env] := by
  rw [asg_cons h]
  rfl
theorem gs_cons {m : Nat} {own : Option (List Nat)} {e : Expr} {es : List Expr} {ts : Tgs} (h : cGs m c own (e :: es) = some ts) : ∃ m' a b, m = m' + 1 ∧ ts = .cons a b ∧ cG m' c own e = some a ∧ cGs m' c own es = some b := by
  cases m with
  | zero => cases h
  | succ m =>
    simp only [cGs] at h
    split at h
    · cases h
    · split at h
      · rename_i a b ea eb
        cases h
        exact ⟨m, a, b, rfl, rfl, ea, eb⟩
      · cases h
theorem gs_nil {m : Nat} {own : Option (List Nat)} {ts : Tgs} (h : cGs m c own [] = some ts) : ts = .nil := by
  cases m with
  | zero => cases h
  | succ m =>
    simp only [cGs] at h
    cases h
    rfl
/-- a, b = x, y; a, b, c = x, y, z -/
theorem snd_swap (G : GX T ca Pg gl cf k c X E) {tgs vs : List Expr} {ns : List Str} {kt k2 : Nat} {pt pt2 pos : Pos} {t : Tg} {e : MI.E} (hsw : swapped c tgs vs = some ns) (ht : cG n c none (.Tuple tgs kt pt) = some t) (he : cE n c (.Tuple vs k2 pt2) = some e) :
    PS X (.Assign [.Tuple tgs kt pt] (.Tuple vs k2 pt2) pos) (sM X.K T ca E (evS Pg cf (.asg t e))) := by
  obtain ⟨hl, hlv, hns, hloc, hnd, hst⟩ := swap_some G.sc G.kd hsw kt k2 pt pt2
  cases n with
  | zero => cases ht
  | succ n =>
    simp only [cG, cE, Option.map_eq_some_iff] at ht he
    obtain ⟨ts, ht, e1⟩ := ht
    obtain ⟨es, he, e2⟩ := he
    subst e1 e2
    have S := snd T ca Pg gl cf k n
    have hw := hst (noStar_any (es_nostar _ _ _ he))
    have tgt : ∀ {m : Nat} {x : Str} {p : Pos} {tg : Tg}, cG m c none (.Name x p) = some tg → ∃ i, tg = .nm i ∧ X.N[i]? = some x := fun {m x p tg} h => by
      cases m with
      | zero => cases h
      | succ m =>
        simp only [cG] at h
        split at h
        · rename_i i ei
          cases h
          exact ⟨i, rfl, (G.tgt ei).1⟩
        · cases h
    have ne : ∀ {i j : Nat} {x y : Str}, X.N[i]? = some x → X.N[j]? = some y → x ≠ y → i ≠ j := fun h1 h2 hn z => hn (Option.some.inj ((h1.symm.trans (by rw [z])).trans h2))
    rcases hl with hl | hl
    · match tgs, hl, vs, hlv with
      | [t1, t2], _, [v1, v2], _ =>
        cases t1 with
        | Name x px =>
          cases t2 with
          | Name y py =>
            simp only [namesOf, Option.map_some, Option.some.injEq] at hns
            subst hns
            obtain ⟨m1, a, b, _, z1, ea, eb⟩ := gs_cons ht
            obtain ⟨m2, a2, b2, _, z2, ea2, eb2⟩ := gs_cons eb
            have z3 := gs_nil eb2
            subst z1 z2 z3
            obtain ⟨i, e1, hi⟩ := tgt ea
            obtain ⟨j, e2, hj⟩ := tgt ea2
            subst e1 e2
            have hxy : x ≠ y := by simpa using hnd
            exact js_par G.calm G.nd hi hj (ne hi hj hxy) (by rw [G.sc]; exact hloc x (by simp)) (by rw [G.sc]; exact hloc y (by simp)) (S.es G he) hw rfl
          | _ => cases hns
        | _ => cases hns
    · match tgs, hl, vs, hlv with
      | [t1, t2, t3], _, [v1, v2, v3], _ =>
        cases t1 with
        | Name x px =>
          cases t2 with
          | Name y py =>
            cases t3 with
            | Name z pz =>
              simp only [namesOf, Option.map_some, Option.some.injEq] at hns
              subst hns
              obtain ⟨m1, a, b, _, z1, ea, eb⟩ := gs_cons ht
              obtain ⟨m2, a2, b2, _, z2, ea2, eb2⟩ := gs_cons eb
              obtain ⟨m3, a3, b3, _, z3, ea3, eb3⟩ := gs_cons eb2
              have z4 := gs_nil eb3
              subst z1 z2 z3 z4
              obtain ⟨i, e1, hi⟩ := tgt ea
              obtain ⟨j, e2, hj⟩ := tgt ea2
              obtain ⟨l, e3, hl⟩ := tgt ea3
              subst e1 e2 e3
              simp only [List.nodup_cons, List.mem_cons, not_or, List.not_mem_nil, not_false_eq_true] at hnd
              exact js_par3 G.calm G.nd hi hj hl (ne hi hj hnd.1.1) (ne hi hl hnd.1.2.1) (ne hj hl hnd.2.1.1) (by rw [G.sc]; exact hloc x (by simp)) (by rw [G.sc]; exact hloc y (by simp)) (by rw [G.sc]; exact hloc z (by simp)) (S.es G he) hw rfl
            | _ => cases hns
          | _ => cases hns
        | _ => cases hns
theorem snd_s (S : SndS T ca Pg gl cf k n) (G : GX T ca Pg gl cf k c X E) (hp : PassesOwn (model X.prog X.w) X.A X.env X.xe) {x : Stmt} {ir : MI.S} (h : cS (n + 1) c x = some ir) : PS X x (sM X.K T ca E (evS Pg cf ir)) := by
  have SE := snd T ca Pg gl cf k n
  unfold cS at h
  split at h
  · cases h; exact js_pas
  · cases h; exact js_brk
  · cases h; exact js_cnt
  · cases h; exact js_ret0
  · rw [Option.map_eq_some_iff] at h
    obtain ⟨e', ee, e2⟩ := h
    subst e2
    exact js_ret (SE.e G ee).1
  · split at h
    · cases h
    · rename_i hl
      rw [Option.map_eq_some_iff] at h
      obtain ⟨e', ee, e2⟩ := h
      subst e2
      exact js_exp (SE.e G ee).1 (swaps_no (by simpa using hl) _ _ _)
  · split at h
    · rename_i t a b et ea eb
      cases h
      exact js_if (SE.e G et).2 (S.ss G hp ea) (S.ss G hp eb)
    · cases h
  · split at h
    · cases h
    · rename_i hset
      split at h
      · rename_i it tg b ei eg eb
        cases h
        have G1 : ∀ E1, L2N.Takes X (cW E1) → GX T ca Pg gl cf k c X E1 := fun E1 t1 => { facts := G.facts, N := G.N, nd := G.nd, sc := G.sc, kd := G.kd, fn := G.fn, calm := G.calm, tk := t1, room := G.room, gl := G.gl, lam := G.lam }
        exact js_for hp G.calm G.tk (fun E1 t1 => SE.i (G1 E1 t1) ei) (fun E1 t1 => SE.g (G1 E1 t1) eg) (fun E1 t1 => S.ss (G1 E1 t1) hp eb) (folded_no (by simpa using hset) _)
      · cases h
  · split at h
    · rename_i t b et eb
      cases h
      exact js_wh hp (SE.e G et).2 (S.ss G hp eb)
    · cases h
  · split at h
    · rename_i hg
      obtain ⟨g1, g2, g3⟩ := G.isGl hg
      split at h
      · rename_i cn ek
        cases h
        rw [G.gl] at ek
        obtain ⟨C, f1, f2, f3, f4, f5, f6⟩ := G.facts.exc _ _ ek
        exact js_rai G.calm G.tk f3 f1 f4 (raises_own f5 f6) g1 g2 f2
      · cases h
    · cases h
  · -- an assignment
    rename_i tg e pos
    split at h
    · rename_i x px
      split at h
      · rename_i i ei
        obtain ⟨g1, g2, g3⟩ := G.tgt ei
        split at h
        · rename_i el gens scope p
          split at h
          · rename_i el' tg' it' ifs' own' ec
            obtain ⟨tg, it, ifs, e1, e2, h1, h2, h3, h4, h5, h6⟩ := SE.c G ec
            subst e1
            dsimp only at e2
            subst e2
            split at h
            · rename_i hb
              simp only [Bool.and_eq_true, decide_eq_true_eq, Bool.not_eq_true'] at hb
              cases h
              have hl : X.env.scope.names.lookup x = some .local := by
                rw [G.sc]
                exact hb.1.1
              exact js_lc (js_setLc G.calm G.nd g1 hl (sw_true (by rw [G.sc]; exact G.kd) hl hb.1.2 hb.2) h1 h2 h3 h4 h5 h6)
            · split at h
              · rename_i hb hb2
                cases h
                refine js_set G.nd g1 g2 (je_comp G.calm G.nd h1 h2 h3 h4 h5 h6) ?_ g3
                have hk : (X.env.kindOf x == some .local && px.line == p.line && !(scope.names.any fun (n, k) => n == x && (k == .local || k == .cell))) = false := by
                  unfold Env.kindOf
                  rw [G.sc]
                  cases hz : (c.sc.names.lookup x == some .local && px.line == p.line && !(scope.names.any fun (n, k) => n == x && (k == .local || k == .cell))) with
                  | false => rfl
                  | true =>
                    exfalso
                    apply hb
                    simp only [Bool.and_eq_true] at hz
                    simp only [Bool.and_eq_true, decide_eq_true_eq]
                    exact ⟨⟨by simpa using hz.1.1, hz.1.2⟩, hz.2⟩
                have hbk : X.env.blockKind = .function := by
                  unfold Env.blockKind
                  rw [G.sc, G.kd]
                  rfl
                unfold swapsWith
                simp only [hbk, Expr.pos]
                show (pure (_ == _ && _ && _ && _) : Sem Bool) = _
                rw [Bool.and_assoc, Bool.and_assoc, ← Bool.and_assoc (X.env.kindOf x == some .local), hk]
                rfl
              · cases h
          · cases h
        · split at h
          · cases h
          · rename_i hl
            rw [Option.map_eq_some_iff] at h
            obtain ⟨e', ee, e2⟩ := h
            subst e2
            exact js_set G.nd g1 g2 (SE.e G ee).1 (swaps_no (by simpa using hl) _ _ _) g3
      · cases h
    · rename_i o f po
      split at h
      · rename_i o' e' eo ee
        cases h
        refine js_fld G.facts.clsOk (SE.e G eo).1 (SE.e G ee).1 ?_
        cases e <;> rfl
      · cases h
    · rename_i tgs kt pt
      split at h
      · cases h
      · rename_i hl
        split at h
        · rename_i vs k2 pt2
          split at h
          · rename_i ns esw
            split at h
            · rename_i t' e' et ee
              cases h
              exact snd_swap G esw et ee
            · cases h
          · split at h
            · rename_i hun
              split at h
              · rename_i t' e' et ee
                cases h
                exact js_asg (SE.e G ee).1 (SE.g G et) rfl (unswap G.sc G.kd hun _ _ _ _) rfl
              · cases h
            · cases h
        · rename_i hnt
          split at h
          · rename_i t' e' et ee
            cases h
            refine js_asg (SE.e G ee).1 (SE.g G et) (swaps_no (e := e) (by simpa using hl) (some (.Tuple tgs kt pt)) pos.line X.env) ?_ rfl
            cases e <;> first | rfl | exact absurd rfl (hnt _ _ _)
          · cases h
    · rename_i o i po
      split at h
      · cases h
      · split at h
        · rename_i t' e' et ee
          cases h
          refine js_asg (SE.e G ee).1 (SE.g G et) ?_ rfl rfl
          cases e <;> rfl
        · cases h
    · cases h
  · cases h
theorem sndS (T : List (Addr × Str)) (ca : Str → Option Addr) (Pg : Prog) (gl : List (Str × Gk)) (cf : Str → List A → AH → R A) (k : Nat) : ∀ n, SndS T ca Pg gl cf k n
  | 0 => ⟨(fun _ _ h => by cases h), (fun _ _ h => by cases h)⟩
  | n + 1 => ⟨(fun G hp h => snd_s (sndS T ca Pg gl cf k n) G hp h), (fun G hp h => snd_ss (sndS T ca Pg gl cf k n) G hp h)⟩
end
end MI

namespace MI
open PySem PyProof.Rows L2
/-- a def as the top has left it: its place, its data, parameters, names, text, name, qualified name, and, if it makes lambdas, its code object and that one's table -/
structure FnR where
  f : Addr
  fd : FuncData
  ps : List Str
  N : List Str
  st : Stmt
  x : Str
  qual : Str
  lam : Option (Addr × Addr)
/-- what must be known of a def of the small language -/
structure FnS (K : PySem.W.Frag) (mg : Str → Option Value) (base : Heap) (T : List (Addr × Str)) (gl : List (Str × Gk)) (al : List (Nat × Nat)) (fn : Fn) (t : FnR) : Prop where
  ex : ∃ (oc : Value) (od : Option Addr) (kV doc pm : Value) (an : Option Addr) (cdv ct : Value) (osl : Array (Option Value)),
    t.fd = PySem.W.fnOf t.x t.qual (defArgs t.st) (defBody t.st) (defScope t.st) .none kV doc pm an cdv ct ∧ K.lookup t.f = some ⟨oc, od, .func t.fd, osl⟩ ∧ PySem.W.codeIn K cdv t.qual = true ∧ ∀ c P', t.lam = some (c, P') → cdv = .ref c
  S : FnScope t.N t.ps (defScope t.st)
  slots : t.N.length = fn.slots
  np : t.ps.length = fn.ps
  cmp : cSs 300 ⟨t.N, defScope t.st, none, gl, al, t.lam.isSome⟩ (defBody t.st) = some fn.body
  b : Binds K t.fd t.ps []
  lam : ∀ c P', t.lam = some (c, P') → LamX.TabB base mg c P' ∧ (P', (t.qual ++ ".<locals>.") ++ "<lambda>") ∈ T ∧ ∀ p ∈ T, p.1 = P' → p.2 = (t.qual ++ ".<locals>.") ++ "<lambda>"
/-- what must be known of a program -/
structure Stat (P : Program) (w : World) (K : PySem.W.Frag) (mg : Str → Option Value) (base : Heap) (T : List (Addr × Str)) (ca : Str → Option Addr) (Pg : Prog) (gl : List (Str × Gk)) (al : List (Nat × Nat)) (tb : Str → Option FnR) : Prop where
  fns : ∀ key fn, Pg.fns.lookup key = some fn → ∃ t, tb key = some t ∧ FnS K mg base T gl al fn t
  blt : ∀ x, blts.contains x = true → mg x = none
  val : ∀ x a, gl.lookup x = some (.val a) → ∃ v u, mg x = some u ∧ RelV v u ∧ ∀ H r n, RA K H r n a v
  fn : ∀ x key, gl.lookup x = some (.fn key) → ∃ t fn, Pg.fns.lookup key = some fn ∧ tb key = some t ∧ mg x = some (.ref t.f) ∧ PySem.W.keepIn K (.ref t.f) = true
  cls : ∀ x cn, gl.lookup x = some (.cls cn) → ∃ C ci g t fn, mg x = some (.ref C) ∧ ca cn = some C ∧ Pg.cls.lookup cn = some ci ∧ ci.init = some g ∧ Pg.fns.lookup g = some fn ∧ tb g = some t ∧ Mk K C t.f
  exc : ∀ x cn, gl.lookup x = some (.exc cn) → ∃ C, mg x = some (.ref C) ∧ ca cn = some C ∧ PySem.W.excIn K C [.type "ValueError", .type "Exception", .type "BaseException", .type "object"] "ValueError.__new__" = true ∧ PySem.W.keepIn K (.ref C) = true ∧
    PySem.W.subIn K (.ref C) (.type "BaseException") = some true ∧ PySem.W.typeIn K (.ref C) = some (.type "type")
  clsOk : ClsOk K ca Pg
  meth : ∀ mn c ci g, Pg.cls.lookup c = some ci → ci.meths.lookup mn = some g → ∃ C t fn, ca c = some C ∧ Cls K C ∧ Meth K C mn t.f ∧ Pg.fns.lookup g = some fn ∧ tb g = some t
  told : ∀ (k : Nat) (X : Cx) (E : XK) (cc P' : Addr) (scope : Scope) (params : Arguments) (body : Expr) (lpos p pos : Pos) (m : ASt → AH → R A), X.prog = P → X.w = w → X.K = K → X.mg = mg → X.base = base → Gl X "_law_told" → LamX.TabB base mg cc P' → X.env.code = .ref cc →
    (P', X.env.qual ++ "<lambda>") ∈ T → (∀ p ∈ T, p.1 = P' → p.2 = X.env.qual ++ "<lambda>") → Room (k + 3) X.A → LamX.LamS X.env.scope scope → noParams params = true →
    (∀ (A : Around) (outer : List Env) (s : Shared) (H : Hp) (E' : XK) (f c' : Addr), Room (k + 1) (A.deeper (LamX.lamEnv X scope s.heap.objs.size f c')) → PE (lamCx X A outer s H E' scope f c') body (tM K T ca (cW E') m)) →
    PE X (.Call (.Name "_law_told" p) [.Lambda params body scope lpos] [] pos) (tM K T ca (cW E) (mTold Pg m))
section
variable {P : Program} {w : World} {K : PySem.W.Frag} {mg : Str → Option Value} {base : Heap} {T : List (Addr × Str)} {ca : Str → Option Addr} {Pg : Prog} {gl : List (Str × Gk)} {al : List (Nat × Nat)} {tb : Str → Option FnR}
theorem start_rel {H : Hp} {r : Rho} {n : Nat} {as : List A} {vs : List V} {N : List Str} (h : RAs K H r n as vs) (hl : as.length ≤ N.length) : RSt K H r n (startA N.length as) (L2.start N vs) := by
  have hv := h.length
  refine ⟨?_, fun i a e => ?_⟩
  · unfold startA L2.start
    simp
    omega
  · unfold startA at e
    unfold L2.start
    by_cases hi : i < as.length
    · rw [List.getElem?_append_left (by simpa using hi), List.getElem?_map] at e
      cases ea : as[i]? with
      | none => rw [ea] at e; cases e
      | some b =>
        rw [ea] at e
        cases e
        obtain ⟨v, h1, h2⟩ := h.get ea
        refine ⟨v, ?_, h2⟩
        rw [List.getElem?_append_left (by simp; omega), List.getElem?_map, h1]
        rfl
    · rw [List.getElem?_append_right (by simpa using hi), List.getElem?_replicate] at e
      split at e <;> cases e
theorem callF_len {key : Str} {fn : Fn} (h : Pg.fns.lookup key = some fn) (k : Nat) (as : List A) (hh : AH) (hl : as.length ≠ fn.ps) : callF Pg k key as hh = .bad := by
  cases k with
  | zero => rfl
  | succ k =>
    show (match Pg.fns.lookup key with
      | some fn => runFn Pg (callF Pg k) fn as hh
      | none => .bad) = .bad
    rw [h]
    exact if_neg hl
theorem fn_all (St : Stat P w K mg base T ca Pg gl al tb) : ∀ (k : Nat) (key : Str) (fn : Fn) (t : FnR), Pg.fns.lookup key = some fn → tb key = some t → FnOk P w K mg base (L2N.CX P w) (4 * k) t.f t.fd t.ps (spM K T ca t.ps.length (callF Pg k key))
  | 0, key, fn, t, hk, ht => by
    refine ⟨fun vs H Q E h => ?_, fun A outer s H args us vs Q E hr e0 hb rv h => ?_⟩
    · obtain ⟨r, h, as, hl, R, ra, P⟩ := h
      exact P.elim
    · obtain ⟨r, h, as, hl, R, ra, P⟩ := h
      exact P.elim
  | k + 1, key, fn, t, hk, ht => by
    have ih := fn_all St k
    have F : Facts P w K mg base T ca Pg gl (callF Pg k) (4 * k) := {
      blt := St.blt
      val := St.val
      fn := fun x key h => by
        obtain ⟨t, fn, h1, h2, h3, h4⟩ := St.fn x key h
        obtain ⟨t', h5, S⟩ := St.fns key fn h1
        rw [h2] at h5
        cases h5
        exact ⟨t.f, t.fd, t.ps, h3, h4, S.b, ih key fn t h1 h2, fun as hh hl => callF_len h1 k as hh (by rw [← S.np]; exact hl)⟩
      cls := fun x cn h => by
        obtain ⟨C, ci, g, t, fn, h1, h2, h3, h4, h5, h6, h7⟩ := St.cls x cn h
        obtain ⟨t', h8, S⟩ := St.fns g fn h5
        rw [h6] at h8
        cases h8
        exact ⟨C, ci, g, t.f, t.fd, t.ps, h1, h2, h3, h4, h7, S.b, ih g fn t h5 h6, fun as hh hl => callF_len h5 k as hh (by rw [← S.np]; exact hl)⟩
      exc := St.exc
      clsOk := St.clsOk
      meth := fun mn c ci g h1 h2 => by
        obtain ⟨C, t, fn, h3, h4, h5, h6, h7⟩ := St.meth mn c ci g h1 h2
        obtain ⟨t', h8, S⟩ := St.fns g fn h6
        rw [h7] at h8
        cases h8
        exact ⟨C, t.f, t.fd, t.ps, h3, h4, h5, ih g fn t h6 h7, fun as hh hl => callF_len h6 k as hh (by rw [← S.np]; exact hl), S.b⟩
      told := St.told (4 * k) }
    obtain ⟨t', h5, S⟩ := St.fns key fn hk
    rw [ht] at h5
    cases h5
    obtain ⟨oc, od, kV, doc, pm, an, cdv, ct, osl, efd, lk, hcd, hlam⟩ := S.ex
    have lenOk : ∀ vs H Q E, spM K T ca t.ps.length (callF Pg (k + 1) key) vs H Q E → vs.length = t.ps.length := fun vs H Q E h => by
      obtain ⟨r, h, as, hl, R, ra, P⟩ := h
      rw [← ra.length]
      exact hl
    have hlev : 4 * (k + 1) = (4 * k + 3) + 1 := by omega
    rw [hlev]
    rw [efd] at lk ⊢
    refine fn_of lk hcd S.S lenOk fun A outer s H vs Q E hr h => ?_
    obtain ⟨r, h, as, hl, R, ra, PP⟩ := h
    have G : GX T ca Pg gl (callF Pg k) (4 * k) ⟨t.N, defScope t.st, none, gl, al, t.lam.isSome⟩ (cxOf (L2N.CX P w) P w K mg base t.N t.qual (defScope t.st) t.f cdv A outer s H E) E := {
      facts := F
      N := rfl
      nd := S.S.nd
      sc := rfl
      kd := S.S.kind
      fn := fun x => ⟨(fun _ => rfl), (fun o e => by cases e)⟩
      calm := rfl
      tk := L2N.takes_of rfl rfl rfl rfl
      room := hr.mono (by omega)
      gl := rfl
      lam := fun hs => by
        cases el : t.lam with
        | none =>
          rw [el] at hs
          cases hs
        | some q =>
          obtain ⟨h1, h2, h3⟩ := S.lam q.1 q.2 el
          exact ⟨q.1, q.2, h1, hlam q.1 q.2 el, h2, h3, hr⟩ }
    refine ⟨_, (sndS T ca Pg gl (callF Pg k) (4 * k) 300).ss G (passes_of rfl) S.cmp, ?_⟩
    have hps : t.ps.length ≤ t.N.length := by
      have := S.S.pre
      have h2 := congrArg List.length this
      rw [List.length_take] at h2
      omega
    have St0 := start_rel (N := t.N) ra (by omega)
    refine ⟨r, startA t.N.length as, h, R, St0, ?_⟩
    have PP : Post K T ca (RA K) E H r h.length (callF Pg (k + 1) key as h) Q := PP
    have ec : callF Pg (k + 1) key as h = (evSs Pg (callF Pg k) fn.body (startA fn.slots as) h).toR := by
      show (match Pg.fns.lookup key with
        | some fn => runFn Pg (callF Pg k) fn as h
        | none => .bad) = _
      rw [hk]
      exact if_pos (by rw [hl, S.np])
    rw [ec] at PP
    rw [S.slots]
    cases ev : evSs Pg (callF Pg k) fn.body (startA fn.slots as) h with
    | bad => rw [ev] at PP; exact PP
    | nx s1 h1 =>
      rw [ev] at PP
      exact fun r1 H1 t1 e1 R1 S1 => PP r1 H1 .non e1 R1 .non
    | rt v h1 => rw [ev] at PP; exact PP
    | bk s1 h1 => rw [ev] at PP; exact PP.elim
    | ct s1 h1 => rw [ev] at PP; exact PP.elim
    | exc c s1 h1 => rw [ev] at PP; exact PP
/-- the law, from the script -/
theorem law_sp {kk : Nat} {key : Str} {cs : List (Addr × Addr)} (hT : ∀ p ∈ T, ∃ q ∈ cs, q.2 = p.1) (ok : ∀ ns : List Int, ns.length ≤ 63 → ∃ h', callF Pg kk key [.fro (ns.map A.int)] [] = .ok (.bl true) h') (H : Hp) (a : Addr) (ns : List Int) (hl : ns.length ≤ 63) (hc : ∀ p ∈ cs, H p.2 = some (.tbl #[])) (hs : SqL K H a (ns.map V.int)) :
    spM K T ca 1 (callF Pg kk key) [.ref a] H (fun v _ => v = .bl true) fun _ _ _ => False := by
  have R : Rel K T ca H (fun _ => 0) [] := ⟨(fun i j hi => by cases hi), (fun i o e => by simp at e), (fun p hp => by
    obtain ⟨q, h1, h2⟩ := hT p hp
    exact LamX.TabS.nil (by rw [← h2]; exact hc q h1))⟩
  refine ⟨fun _ => 0, [], [.fro (ns.map A.int)], rfl, R, .cons ?_ .nil, ?_⟩
  · have hi := of_ints (K := K) (H := H) (r := fun _ => 0) (n := ([] : AH).length) ns
    rcases hs with (hs | ⟨o, hs⟩) | hs
    · exact .froL ⟨hs, fun l hl => by cases hl⟩ hi
    · exact .fro ⟨hs, fun l hl => by cases hl⟩ hi
    · exact .froK hs hi
  · obtain ⟨h', e⟩ := ok ns hl
    rw [e]
    intro r' H' u _ _ rv
    cases rv
    rfl
end
end MI

namespace MI
open PySem PySem.Spec PyProof.Rows L2 HotX
section
variable {prog : Program} {w : World} {A : Around} {E : Value → Shared → Prop} {s : Shared}
/-- a list's iterator at its end, an error being handled -/
theorem next_end_hot {it l z : Addr} {i : Nat} {xs : Array Value} {Q : Option Value → Shared → Prop} (hot : HotAt A z s.heap) (hz : z ≠ it) (hi : s.heap.IsListIter it l i) (hl : s.heap.IsList l xs) (hx : xs[i]? = none)
    (q : ∀ h', Heap.ExtBut it s.heap h' → Q none { s with heap := h' }) : wpAny (model prog w) A (pyNext (.ref it)) Q E s := by
  obtain ⟨hh, oz, vz, e1, e2, e3⟩ := hot
  obtain ⟨oi, f1, f2, f3⟩ := id hi
  obtain ⟨ol, g1, _, nl, g2⟩ := hl
  unfold pyNext
  refine wpAny_bind (wpAny_attempt (wpAny_callSpecial?_slot (name := Str.ofString "__next__") hi.typeIs slot_listiter_next (wpAny_call_entry slot_listiter_next hi.typeIs entry_listiter_next ?_ (args_listiter_next _))))
  show wpAny _ _ (field (.ref it) 0 >>= _) _ _ s
  refine wpAny_bind (wpAny_field f1 f3 (x := .ref l) rfl ?_)
  show wpAny _ _ (if (Value.ref l == Value.none) = true then _ else _) _ _ s
  rw [if_neg (show ¬ ((Value.ref l == Value.none) = true) from Bool.false_ne_true)]
  show wpAny _ _ (field (.ref it) 1 >>= _) _ _ s
  refine wpAny_bind (wpAny_field f1 f3 (x := .int i 0) rfl ?_)
  show wpAny _ _ (seqItems? (.ref l) >>= _) _ _ s
  refine wpAny_bind (wpAny_seqItems g1 g2 ?_)
  simp only [Int.toNat_natCast, hx]
  refine wpAny_bind (wpAny_rule (wpAny_bind (wpAny_setField f1 f3 (by simp) ?_)))
  show wpAny _ _ (newExc (.type "StopIteration") [] >>= _) _ _ _
  refine wpAny_bind ?_
  simp only [newExc, newTuple]
  refine wpAny_bind (wpAny_newObj_type ?_ (by size_fits))
  refine wpAny_bind (m := firstArgMember _ _) (wpAny_of_eq (a := Value.none) (by first | rfl | (simp only [firstArgMember]; rfl)) ?_)
  refine wpAny_newObj_type ?_ (by size_fits)
  have e4 := (Heap.get?_update_other s.heap (Obj.mapFields fun x => x.setIfInBounds 0 Value.none) (Ne.symm hz)).trans e1
  refine raiseNew_hot ⟨hh, oz, vz, Heap.get?_push_of_some _ (Heap.get?_push_of_some _ e4), e2, e3⟩ (Nat.ne_of_lt (Heap.lt_size (Heap.get?_push_of_some _ e4))) (Heap.get?_push_size _ rfl) rfl (by first | (simp; done) | (simp; omega)) ?_
  refine wpAny_bind (wpAny_isInstance (T := "StopIteration") (b := true) ⟨_, Heap.get?_update_self _ (Heap.get?_push_size _ rfl) rfl, rfl⟩ isSubtype_stop ?_)
  refine wpAny_pure (q _ fun b o hb e => ?_)
  have e5 := (Heap.get?_update_other s.heap (Obj.mapFields fun x => x.setIfInBounds 0 Value.none) (Ne.symm hb)).trans e
  rw [Heap.get?_update_other _ _ (Nat.ne_of_gt (Heap.lt_size (Heap.get?_push_of_some _ e5)))]
  exact Heap.get?_push_of_some _ (Heap.get?_push_of_some _ e5)
/-- a list's iterator, an error being handled -/
theorem walks_hot {I l z : Addr} (h1 : l ≠ I) (h2 : z ≠ I) (xs : Array Value) :
    Walks prog w A I [I, l, z] [I] xs.size (fun i v => xs[i]? = some v) (fun i h => h.IsListIter I l i ∧ h.IsList l xs ∧ HotAt A z h) where
  sub := by simp
  frame := fun i h h' st k => by
    obtain ⟨s1, s2, hh, o, vs, e1, e2, e3⟩ := st
    exact ⟨s1.at fun o e => k I (by simp) o e, s2.at fun o e => k l (by simp) o e, hh, o, vs, k z (by simp) o e1, e2, e3⟩
  item := fun i s Q E hi st q => by
    obtain ⟨s1, s2, hh, o, vs, e1, e2, e3⟩ := st
    refine wpAny_pyNext_list_item s1 s2 (x := xs[i]) (by simp [hi]) fun h' n1 n2 => ?_
    exact q _ h' s.toks (by simp [hi]) ⟨n1, s2.extBut n2.extBut h1, hh, o, vs, n2.extBut z o h2 e1, e2, e3⟩ fun b o hb e => n2.extBut b o (fun h => hb (by simp [h])) e
  done := fun s Q E st q => by
    obtain ⟨s1, s2, s3⟩ := st
    exact next_end_hot s3 h2 s1 s2 (by simp) fun h' e => q h' s.toks fun b o hb eb => e b o (fun h => hb (by simp [h])) eb
  self := fun _ _ _ _ st q => wpAny_pyIter_listiter st.1 q
end
/-- sum of a list of ints, an error being handled -/
theorem cr_sum_hot {X : Cx} (hot : L2H.HotC X) : CallR X (.builtin "sum") (rSum X.K) := by
  intro pins s σ H vs us Q I r h
  obtain ⟨a, ns, rfl, hs, q⟩ := h
  obtain ⟨its, rv, hl, _⟩ := I.list hs
  obtain ⟨z, hz⟩ := hot.at I
  rw [Vals.ref1 r]
  have hl := hl.isList
  have la : a < s.heap.objs.size := by
    obtain ⟨o, e, _⟩ := hl
    exact Heap.lt_size e
  have lz : z < s.heap.objs.size := by
    obtain ⟨_, o, _, e, _⟩ := hz
    exact Heap.lt_size e
  refine call_sum_walkG (wpAny_pyIter_list hl ?_)
  refine ⟨s.heap.objs.size, _, _, _, _, _, fun i => ns.getD i 0, rfl, walks_hot (A := X.A.in1) (Nat.ne_of_lt la) (Nat.ne_of_lt lz) its.toArray, ⟨⟨_, Heap.get?_push_size _ rfl, rfl, rfl⟩, hl.push _, ?_⟩, ?_, ?_, ?_⟩
  · obtain ⟨hh, o, vs, e1, e2, e3⟩ := hz
    exact ⟨hh, o, vs, Heap.get?_push_of_some _ e1, e2, e3⟩
  · intro b hb
    show b < (s.heap.push _).objs.size
    rw [Heap.size_push]
    simp only [List.mem_cons, List.not_mem_nil, or_false] at hb
    rcases hb with e | e | e
    · rw [e]; exact Nat.lt_succ_self _
    · rw [e]; exact Nat.lt_succ_of_lt la
    · rw [e]; exact Nat.lt_succ_of_lt lz
  · intro i v e
    have e : its[i]? = some v := by simpa using e
    have hi : i < ns.length := by
      have := (List.getElem?_eq_some_iff.mp e).1
      have := Vals.length rv
      rw [List.length_map] at this
      omega
    obtain ⟨u, hu, ru⟩ := Vals.get rv (i := i) (x := .int ns[i]) (by rw [List.getElem?_map, List.getElem?_eq_getElem hi]; rfl)
    rw [e] at hu
    cases hu
    obtain ⟨t, rfl⟩ := ru
    refine ⟨t, ?_⟩
    show Value.int ns[i] t = Value.int (ns.getD i 0) t
    rw [List.getD_eq_getElem?_getD, List.getElem?_eq_getElem hi]
    rfl
  · intro h' tk t' k
    have pre : ∀ (l : List Int) (n : Nat), n ≤ l.length → preSum (fun i => l.getD i 0) n = (l.take n).sum := fun l n => by
      induction n with
      | zero => intro _; rfl
      | succ n ih =>
        intro hn
        show preSum _ n + l.getD n 0 = _
        rw [ih (by omega), List.take_succ_eq_append_getElem (by omega), List.sum_append, List.getD_eq_getElem?_getD, List.getElem?_eq_getElem (by omega)]
        simp
    have len : its.toArray.size = ns.length := by
      have := rv.length
      simp at this
      simp [this]
    refine ⟨.int _, H, I.kept fun b o e => k b o (by simp; exact Nat.ne_of_lt (Heap.lt_size e)) (Heap.get?_push_of_some _ e), ⟨_, rfl⟩, ?_⟩
    rw [len, pre ns _ (Nat.le_refl _), List.take_length]
    exact q
theorem ints_of : ∀ {bs : List Bool} {its ys : List Value}, Vals (bs.map V.bl) its → Paired (fun v u => ∃ b t, v = Value.bool b ∧ u = .int (if b then 1 else 0) t) its ys → Vals (bs.map fun b => V.int (if b then 1 else 0)) ys
  | [], _, _, .nil, .nil => .nil
  | b :: bs, _, _, .cons r rr, .cons f ff => by
    obtain ⟨c, t, e1, e2⟩ := f
    have e3 : _ = Value.bool b := r
    rw [e3] at e1
    cases e1
    exact .cons ⟨t, e2⟩ (ints_of rr ff)
/-- [int(x) for x in xs], xs a list of bools, an error being handled -/
theorem pe_comp_hot {X : Cx} {i : Nat} {x y : Str} {scope : Scope} {p1 p2 p3 p4 p5 pos : Pos} (hot : L2H.HotC X) (hN : X.N[i]? = some y) (hv : Vis X.env.scope y) (hm : X.mg "int" = none) (hsc : scope.names.all (fun z => z.2 != .free && z.2 != .cell && (z.2 != .local || scope.names.lookup z.1 == some .local)) = true) (hk : scope.kind = .function)
    (hx : scope.names.lookup x = some .local) (hi : scope.names.lookup ("int" : Str) = some .globalImplicit) (hd : (y == ("__debug__" : Str)) = false) (hcd : (y == ("__classdict__" : Str)) = false) (hxd : (x == ("__debug__" : Str)) = false) :
    PE X (.ListComp (.Call (.Name "int" p1) [.Name x p2] [] p3) [⟨.Name x p4, .Name y p5, [], 0⟩] scope pos)
      (fun σ H Q => ∃ (l : Addr) (bs : List Bool), σ[i]? = some (some (.ref l)) ∧ H l = some (.lst (bs.map V.bl)) ∧ ∀ D, H D = none → Q (.ref D) (upd H D (.lst (bs.map fun b => V.int (if b then 1 else 0))))) := by
  have sc : ∀ z ∈ scope.names, z.2 ≠ .free ∧ z.2 ≠ .cell ∧ (z.2 = .local → scope.names.lookup z.1 = some .local) := fun z hz => by
    have := List.all_eq_true.mp hsc z hz
    simp only [Bool.and_eq_true, Bool.or_eq_true, bne_iff_ne, beq_iff_eq] at this
    exact ⟨this.1.1, this.1.2, fun e => this.2.resolve_left fun n => n e⟩
  refine ⟨fun pins s σ H Q I h => ?_⟩
  obtain ⟨l, bs, h1, h2, q⟩ := h
  refine wpAny_ListComp_walk (fun _ => true) (fun v u => ∃ b t, v = .bool b ∧ u = .int (if b then 1 else 0) t) (fun z hz => (sc z hz).1) (fun z hz => (sc z hz).2.1) hk (fun z hz => (sc z hz).2.2) hx
    (thn ((pe_var (pos := p5) hN hv hd hcd).run pins s σ H (fun v H1 => v = .ref l ∧ H1 = H) I ⟨_, h1, rfl, rfl⟩) fun u s1 ⟨v, H1, I1, r1, ev, eH⟩ => ?_)
  subst ev
  rw [eH] at I1
  obtain rfl : u = Value.ref l := r1
  obtain ⟨its, rv, hl, hz⟩ := I1.list (.inl (.inl h2))
  obtain ⟨z, hzt⟩ := hot.at I1
  have hl := hl.isList
  have la : l < s1.heap.objs.size := by
    obtain ⟨o, e, _⟩ := hl
    exact Heap.lt_size e
  have lz : z < s1.heap.objs.size := by
    obtain ⟨_, o, _, e, _⟩ := hzt
    exact Heap.lt_size e
  have bool : ∀ i v, its[i]? = some v → ∃ b, bs[i]? = some b ∧ v = Value.bool b := fun i v e => by
    have hi : i < bs.length := by
      have := (List.getElem?_eq_some_iff.mp e).1
      have := Vals.length rv
      rw [List.length_map] at this
      omega
    obtain ⟨u, hu, ru⟩ := Vals.get rv (i := i) (x := .bl bs[i]) (by rw [List.getElem?_map, List.getElem?_eq_getElem hi]; rfl)
    rw [e] at hu
    cases hu
    exact ⟨_, List.getElem?_eq_getElem hi, ru⟩
  refine wpAny_pyIter_list hl ?_
  refine ⟨s1.heap.objs.size, _, _, _, _, _, rfl, walks_hot (Nat.ne_of_lt la) (Nat.ne_of_lt lz) its.toArray, ?_, ⟨⟨_, Heap.get?_push_size _ rfl, rfl, rfl⟩, hl.push _, ?_⟩, ?_, ⟨?_, ?_⟩, ?_⟩
  · have := Vals.length rv
    simp at this ⊢
    rw [← this]
    simpa using hz
  · obtain ⟨hh, o, vs, e1, e2, e3⟩ := hzt
    exact ⟨hh, o, vs, Heap.get?_push_of_some _ e1, e2, e3⟩
  · intro b hb
    show b < (s1.heap.push _).objs.size
    rw [Heap.size_push]
    simp only [List.mem_cons, List.not_mem_nil, or_false] at hb
    rcases hb with e | e | e
    · rw [e]; exact Nat.lt_succ_self _
    · rw [e]; exact Nat.lt_succ_of_lt la
    · rw [e]; exact Nat.lt_succ_of_lt lz
  · intro C i v s3 m3 E' _ _ _ _ _
    simp only [List.forIn_nil]
    exact wpAny_pure ⟨rfl, s3.heap, s3.toks, rfl, fun _ _ e => e⟩
  · intro C i v s3 m3 E' hP _ hn hm3 hk3 _
    obtain ⟨b, hb, ev⟩ := bool i v (by simpa using hP)
    subst ev
    have old : ∀ b o, s1.heap.get? b = some o → s3.heap.get? b = some o := fun b o e => hk3 b o (by simp; exact Nat.ne_of_lt (Heap.lt_size e)) (Heap.get?_push_of_some _ e)
    obtain ⟨mb, b1, b2⟩ := I1.mod.blt
    refine wpAny_Call_Name_kw (Calls.Name_function_global hk hi (Calls.loadGlobal_builtin (mg := X.mg) (mb := mb) (v := .type "int") ?_ hm ?_ ((b2 ("int" : Str) (by decide)).trans (by decide +kernel)) ?_))
    · show s3.heap.Ns X.env.globals X.mg
      rw [I1.ok.glob]
      exact (I1.mod.glob.keeps I1.bk).keeps old
    · show s3.heap.Ns X.env.builtins mb
      rw [I1.ok.blt]
      exact (b1.keeps I1.bk).keeps old
    · refine PyProof.Rows.callWith_type1 ?_
      refine Calls.spliced_cons (wpAny_Name (wpAny_loadName_local hk hx hn hm3 (Calls.spliced_nil ?_)) hxd)
      exact call_int_bool ⟨⟨b, _, rfl, rfl⟩, s3.heap, s3.toks + 1, rfl, fun _ _ e => e⟩
  · intro D h' tk ys vs hD _ hpl hlen hP hF hk
    have old : ∀ b o, s1.heap.get? b = some o → h'.get? b = some o := fun b o e => hk b o (by simp; exact Nat.ne_of_lt (Heap.lt_size e)) (Heap.get?_push_of_some _ e)
    have hD1 : s1.heap.get? D = none := by
      cases e : s1.heap.get? D with
      | none => rfl
      | some o =>
        have := Heap.get?_push_of_some { cls := .type "list_iterator", data := .fields #[.ref l, .int 0 0] } e
        rw [show (s1.heap.push { cls := .type "list_iterator", data := .fields #[.ref l, .int 0 0] }).get? D = none from hD] at this
        cases this
    have hDn : H D = none := I1.hok.gone hD1
    have sameVs : vs = its := by
      refine List.ext_getElem (by simpa using hlen) fun j h1 h2 => ?_
      have := hP j _ (List.getElem?_eq_getElem h1)
      rw [List.getElem?_toArray, List.getElem?_eq_getElem h2] at this
      exact (Option.some.inj this).symm
    obtain ⟨n, hpl⟩ := hpl
    have F : Vals (bs.map fun b => V.int (if b then 1 else 0)) ys.toList := ints_of (its := vs) (sameVs ▸ rv) (by rw [List.filter_eq_self.mpr fun _ _ => rfl] at hF; exact hF)
    refine ⟨.ref D, upd H D (.lst (bs.map fun b => V.int (if b then 1 else 0))), I1.laidN old hD1 hDn ⟨by simpa using hz, ys.toList, n, F, by simpa using hpl⟩, rfl, q D hDn⟩
end MI

namespace MI
open PySem PySem.Spec PyProof.Rows L2 HotX
/-- objects have come, none has gone -/
inductive News : Hp → Hp → Prop
  | refl (H : Hp) : News H H
  | step {H H' : Hp} {p : Addr} {o : HO} : News H H' → H' p = none → News H (upd H' p o)
theorem News.keep {H H' : Hp} (n : News H H') : ∀ {b : Addr} {o : HO}, H b = some o → H' b = some o := by
  induction n with
  | refl => exact fun h => h
  | step n hp ih =>
    intro b o h
    have := ih h
    rw [upd_ne (fun e => by rw [e, hp] at this; cases this)]
    exact this
/-- X handles the error at a, of the class at D -/
structure HotE (X : Cx) (a D : Addr) : Prop where
  pin : ∃ oe, (a, oe) ∈ X.pn ∧ Zc (.ref D) none oe ∧ ∃ vs, oe.data = .fields vs
  exc : ExcC X.K D
  hot : L2H.HotC X
section
variable {X : Cx} {a D : Addr}
theorem cr_isE (h : HotE X a D) : CallR X (.builtin "isinstance") (rIsE X.K D a) := by
  intro pins s σ H xs us Q I r q
  obtain ⟨c, cv, b, rfl, hc, hb, q⟩ := q
  obtain ⟨oe, hp, hz, vs, hd⟩ := h.pin
  cases r with
  | cons r1 rr =>
    cases rr with
    | cons r2 rr =>
      cases rr
      cases r1
      rw [hc _ r2]
      have get := (I.pin (a, oe) (List.mem_append_left _ hp)).1
      have J : PySem.W.InstAt s.heap a oe D none := by
        cases oe
        obtain ⟨z1, z2⟩ := hz
        dsimp only at z1 z2 hd
        subst z1 z2 hd
        exact ⟨get, rfl, rfl, trivial⟩
      have e := h.exc
      exact PySem.W.kia_one (PySem.W.handS_kitx_exc e.hg e.hk e.hs e.hd e.ha e.hn e.ht e.hm) I.kIn J hb (fun z => nomatch z) fun tk => ⟨.bl b, H, I.kept (t' := tk) fun _ _ z => z, rfl, q⟩
/-- what the names e, isinstance are -/
structure IsN (X : Cx) : Prop where
  e : X.N[0]? = some ("e" : Str)
  le : X.env.scope.names.lookup ("e" : Str) = some .local
  g : Gl X "isinstance"
  m : X.mg "isinstance" = none
theorem pe_isE (h : HotE X a D) (n : IsN X) {c : Str} {v : V} {cv : Value} {b : Bool} {p p1 p2 p3 : Pos} (hc : PE X (.Name c p2) (tC v)) (hcv : ∀ u, RelV v u → u = cv) (hk : PySem.W.kitOne X.K (.ref D) cv = some b) :
    PE X (.Call (.Name "isinstance" p) [.Name "e" p1, .Name c p2] [] p3) (fun σ H Q => σ[0]? = some (some (.ref a)) ∧ Q (.bl b) H) := by
  refine (pe_callB (cr_isE h) n.g n.m (by decide +kernel) (pa_cons (pe_var n.e (.inl n.le)) (pa_cons hc pa_nil))).wk fun σ H Q q => ?_
  exact ⟨_, q.1, v, cv, b, rfl, hcv, hk, q.2⟩
inductive IsE (X : Cx) (D : Addr) : List Expr → List Bool → Prop
  | nil : IsE X D [] []
  | cons {c : Str} {p p1 p2 p3 : Pos} {C : Addr} {b : Bool} {es : List Expr} {bs : List Bool} : Gl X c → X.mg c = some (.ref C) → (c == ("__debug__" : Str)) = false → PySem.W.kitOne X.K (.ref D) (.ref C) = some b → IsE X D es bs →
      IsE X D (.Call (.Name "isinstance" p) [.Name "e" p1, .Name c p2] [] p3 :: es) (b :: bs)
theorem pa_isE (h : HotE X a D) (n : IsN X) {es : List Expr} {bs : List Bool} (i : IsE X D es bs) : PA X es (fun σ H Q => σ[0]? = some (some (.ref a)) ∧ Q (bs.map V.bl) H) := by
  induction i with
  | nil => exact pa_nil.wk fun σ H Q q => q.2
  | cons g m d k _ ih => exact (pa_cons (pe_isE h n (pe_glob g m (v := .ref _) rfl d) (fun u r => r) k) ih).wk fun σ H Q q => ⟨q.1, q.1, q.2⟩
inductive Strs : List Expr → List Str → Prop
  | nil : Strs [] []
  | cons {x : Str} {j : Nat} {p : Pos} {es : List Expr} {xs : List Str} : Strs es xs → Strs (.Constant (.str x) j p :: es) (x :: xs)
theorem pa_strs {es : List Expr} {xs : List Str} (i : Strs es xs) : PA X es (fun σ H Q => Q (xs.map V.str) H) := by
  induction i with
  | nil => exact pa_nil.wk fun σ H Q q => q
  | cons _ ih => exact (pa_cons pe_str ih).wk fun σ H Q q => q
/-- the flags tell nm alone -/
structure OneOf (bs : List Bool) (xs : List Str) (nm : Str) : Prop where
  sum : (bs.map fun b => if b then (1 : Int) else 0).sum = 1
  at_ : ∃ j : Nat, bs[j]? = some true ∧ xs[j]? = some nm ∧ ∀ m, m < j → bs[m]? = some false
  len : bs.length ≤ 64
  lenx : xs.length ≤ 64
/-- what _law_word's names are -/
structure WordN (X : Cx) : Prop where
  is : IsN X
  nd : X.N.Nodup
  f : X.N[1]? = some ("flags" : Str)
  lf : X.env.scope.names.lookup ("flags" : Str) = some .local
  gs : Gl X "sum"
  ms : X.mg "sum" = none
  gv : Gl X "ValueError"
  mv : X.mg "ValueError" = none
  mi : X.mg "int" = none
def compOk (scope : Scope) : Bool := scope.names.all (fun z => z.2 != .free && z.2 != .cell && (z.2 != .local || scope.names.lookup z.1 == some .local)) && scope.kind == .function && scope.names.lookup ("flag" : Str) == some .local && scope.names.lookup ("int" : Str) == some .globalImplicit
theorem small_bl {n : Nat} (h : n ≤ 64) : n ≤ sizeLine := by rw [sizeLine_eq]; omega
/-- flags = [..]; flags = flags + [..]; if sum([int(flag) for flag in flags]) != 1 or not isinstance(e, ValueError): .. -/
theorem pss_flags (h : HotE X a D) (n : WordN X) {es1 es2 : List Expr} {bs1 bs2 : List Bool} {xs : List Str} {nm : Str} {scope : Scope} {p1 p2 p3 p4 p5 p6 p7 p8 p9 p10 p11 p12 p13 p14 p15 p16 p17 p18 p19 p20 p21 p22 p23 p24 p25 : Pos} {k1 : Nat} {any rest : List Stmt} {u : TS}
    (i1 : IsE X D es1 bs1) (i2 : IsE X D es2 bs2) (o : OneOf (bs1 ++ bs2) xs nm) (ve : PySem.W.kitOne X.K (.ref D) (.type "ValueError") = some true) (cs : compOk scope = true)
    (hrest : PSs X rest u) :
    PSs X (.Assign [.Name "flags" p1] (.List es1 p2) p3 :: .Assign [.Name "flags" p4] (.BinOp (.Name "flags" p5) .Add (.List es2 p6) p7) p8 ::
      .If (.BoolOp .Or [.Compare (.Call (.Name "sum" p9) [.ListComp (.Call (.Name "int" p10) [.Name "flag" p11] [] p12) [⟨.Name "flag" p13, .Name "flags" p14, [], 0⟩] scope p15] [] p16) [.NotEq] [.Constant (.int 1) k1 p17] p18,
        .UnaryOp .Not (.Call (.Name "isinstance" p19) [.Name "e" p20, .Name "ValueError" p21] [] p22) p23] p24) any [] p25 :: rest)
      (fun Dn σ H => σ[0]? = some (some (.ref a)) ∧ 1 < σ.length ∧ ∀ σ' H' l, σ'[0]? = some (some (.ref a)) → σ'.length = σ.length → σ'[1]? = some (some (.ref l)) → H' l = some (.lst ((bs1 ++ bs2).map V.bl)) → News H H' → u Dn σ' H') := by
  simp only [compOk, Bool.and_eq_true, beq_iff_eq] at cs
  obtain ⟨⟨⟨c1, c2⟩, c3⟩, c4⟩ := cs
  have ol := o.len
  rw [List.length_append] at ol
  have locf : Loc X.env.scope "flags" := .inl n.lf
  have visf : Vis X.env.scope "flags" := .inl n.lf
  have P1 := ps_set (pos := p3) (pos' := p1) n.nd n.f locf (pe_lst (pos := p2) (pa_isE h n.is i1)) (hf := .inr n.lf)
  have P2 := ps_set (pos := p8) (pos' := p4) n.nd n.f locf (pe_op (pos := p7) op_cat (pe_var (pos := p5) n.f visf) (pe_lst (pos := p6) (pa_isE h n.is i2))) (hf := .inr n.lf)
  have C1 := pe_comp_hot (x := "flag") (p1 := p10) (p2 := p11) (p3 := p12) (p4 := p13) (p5 := p14) (pos := p15) h.hot n.f visf n.mi c1 c2 c3 c4 (by decide) (by decide) (by decide)
  have S1 := pe_callB (p := p9) (pos := p16) (cr_sum_hot h.hot) n.gs n.ms (by decide +kernel) (pa_cons C1 pa_nil)
  have T1 := pt_cmpR (pos := p18) op_ne S1 (pe_int (i := 1) (j := k1) (pos := p17)) (by rfl)
  have T2 := pt_not (pos := p23) (pt_val (pe_isE (p := p19) (p1 := p20) (p3 := p22) h n.is (pe_bltn (pos := p21) (v := .ty "ValueError") n.gv n.mv (by decide +kernel) rfl) (fun u r => r) ve))
  have T := (pw_or (pos := p24) T1 (pw_or1 T2)).pt
  refine (pss_cons P1 (pss_cons P2 (pss_cons (ps_if (pos := p25) T (pss_never (sts := any)) pss_nil) hrest))).wk fun Dn σ H q => ?_
  obtain ⟨q0, ql, q⟩ := q
  -- flags = [..]
  refine ⟨q0, by rw [List.length_map]; exact small_bl (by omega), fun l1 e1 => ?_⟩
  -- flags = flags + [..]
  have s1 : (σ.set 1 (some (V.ref l1)))[1]? = some (some (.ref l1)) := by simp [ql]
  have s0 : ∀ v, (σ.set 1 v)[0]? = some (some (.ref a)) := fun v => by simpa using q0
  refine ⟨_, s1, s0 _, by rw [List.length_map]; exact small_bl (by omega), fun l2 e2 => ?_⟩
  have n12 : l1 ≠ l2 := fun e => by rw [← e, upd_same] at e2; cases e2
  refine ⟨l1, l2, bs1.map V.bl, bs2.map V.bl, rfl, rfl, ?_, upd_same, by simp only [List.length_map]; exact small_bl (by omega), fun l3 e3 => ?_⟩
  · rw [upd_ne n12, upd_same]
  rw [← List.map_append]
  generalize hH3 : upd (upd (upd H l1 (.lst (bs1.map V.bl))) l2 (.lst (bs2.map V.bl))) l3 (.lst ((bs1 ++ bs2).map V.bl)) = H3
  have N3 : News H H3 := by rw [← hH3]; exact .step (.step (.step (.refl _) e1) e2) e3
  have g3 : H3 l3 = some (.lst ((bs1 ++ bs2).map V.bl)) := by rw [← hH3, upd_same]
  have a0 : ((σ.set 1 (some (V.ref l1))).set 1 (some (V.ref l3)))[0]? = some (some (.ref a)) := by simpa using q0
  have a1 : ((σ.set 1 (some (V.ref l1))).set 1 (some (V.ref l3)))[1]? = some (some (.ref l3)) := by simp [ql]
  have al : ((σ.set 1 (some (V.ref l1))).set 1 (some (V.ref l3))).length = σ.length := by simp
  -- the test
  refine ⟨l3, bs1 ++ bs2, a1, g3, fun l4 e4 => ?_⟩
  have n34 : l3 ≠ l4 := fun e => by rw [← e, g3] at e4; cases e4
  refine ⟨l4, (bs1 ++ bs2).map fun b => if b then (1 : Int) else 0, rfl, .inl (.inl ?_), rfl, false, ?_, ?_⟩
  · rw [upd_same, List.map_map]
    rfl
  · rw [o.sum]
    rfl
  · refine ⟨a0, true, rfl, ?_⟩
    exact q _ _ l3 a0 al a1 (by rw [upd_ne n34]; exact g3) (.step N3 e4)
/-- return ('refused', names[flags.index(True)]) -/
theorem pss_word6 (h : HotE X a D) (n : WordN X) {es1 es2 es3 : List Expr} {bs1 bs2 : List Bool} {xs : List Str} {nm : Str} {scope : Scope} {p1 p2 p3 p4 p5 p6 p7 p8 p9 p10 p11 p12 p13 p14 p15 p16 p17 p18 p19 p20 p21 p22 p23 p24 p25 q1 q2 q3 q4 q5 q6 q7 q8 q9 : Pos} {k1 k2 k3 : Nat} {any : List Stmt}
    (i1 : IsE X D es1 bs1) (i2 : IsE X D es2 bs2) (i3 : Strs es3 xs) (o : OneOf (bs1 ++ bs2) xs nm) (ve : PySem.W.kitOne X.K (.ref D) (.type "ValueError") = some true) (cs : compOk scope = true) (hl : (q4.endLine == q6.line) = true) {b3 : Nat} :
    PSs X [.Assign [.Name "flags" p1] (.List es1 p2) p3, .Assign [.Name "flags" p4] (.BinOp (.Name "flags" p5) .Add (.List es2 p6) p7) p8,
      .If (.BoolOp .Or [.Compare (.Call (.Name "sum" p9) [.ListComp (.Call (.Name "int" p10) [.Name "flag" p11] [] p12) [⟨.Name "flag" p13, .Name "flags" p14, [], 0⟩] scope p15] [] p16) [.NotEq] [.Constant (.int 1) k1 p17] p18,
        .UnaryOp .Not (.Call (.Name "isinstance" p19) [.Name "e" p20, .Name "ValueError" p21] [] p22) p23] p24) any [] p25,
      .Return (some (.Tuple [.Constant (.str "refused") k2 q1, .Subscript (.List es3 q2) (.Call (.Attribute (.Name "flags" q3) "index" q4) [.Constant (.bool true) k3 q5] [] q6) q7] b3 q8)) q9]
      (fun Dn σ H => σ[0]? = some (some (.ref a)) ∧ 1 < σ.length ∧ ∀ H' p, News H H' → H' p = none → Dn.rt (.ref p) (upd H' p (.tup [.str "refused", .str nm]))) := by
  have ix := pe_bm (apos := q4) (cpos := q6) PySem.F.plainAttrs_list PySem.F.slot_list_index PySem.F.type_list_index mt_index (pe_var (X := X) (pos := q3) n.f (.inl n.lf)) (pa_cons (pe_bl (b := true) (j := k3) (pos := q5)) pa_nil) (hline := hl)
  have R := pss_one (ps_ret (pos := q9) (pe_tup (pos := q8) (x1 := b3) (pa_cons (pe_str (x := "refused") (j := k2) (pos := q1)) (pa_cons (pe_ix (pos := q7) ix_list (pe_lst (pos := q2) (pa_strs i3)) ix (fun _ _ => rfl)) pa_nil))))
  refine (pss_flags h n i1 i2 o ve cs R).wk fun Dn σ H q => ?_
  obtain ⟨q0, ql, q⟩ := q
  refine ⟨q0, ql, fun σ' H' l b0 bl b1 hl' N => ?_⟩
  have olx := o.lenx
  have oln := o.len
  obtain ⟨j, j1, j2, j3⟩ := o.at_
  have hj := (List.getElem?_eq_some_iff.mp j1).1
  refine ⟨by rw [List.length_map]; exact small_bl olx, fun l5 e5 => ?_⟩
  have n5 : l ≠ l5 := fun e => by rw [← e, hl'] at e5; cases e5
  have g5 : upd H' l5 (.lst (xs.map V.str)) l = some (.lst ((bs1 ++ bs2).map V.bl)) := by rw [upd_ne n5]; exact hl'
  refine ⟨_, b1, .inl ⟨rfl, _, .inl (.inl g5)⟩, l, (bs1 ++ bs2).map V.bl, .bl true, j, .bl true, rfl, rfl, .inl (.inl g5), rfl, ?_, ?_, rfl, ?_, ?_⟩
  · rw [List.all_map]
    exact List.all_eq_true.mpr fun _ _ => rfl
  · rw [List.getElem?_map, j1]
    rfl
  · intro m z' hm hz
    rw [List.getElem?_map, j3 m hm] at hz
    cases hz
    rfl
  · refine ⟨l5, xs.map V.str, (j : Nat), .str nm, rfl, rfl, .inl (.inl upd_same), ?_, ?_⟩
    · exact atI_nat (by rw [List.getElem?_map, j2]; rfl)
    · exact ⟨by show 2 ≤ sizeLine; decide, fun p hp => q _ p (.step N e5) hp⟩
/-- some = names; return ('refused', some[flags.index(True)]) -/
theorem pss_word8 (h : HotE X a D) (n : WordN X) (hs : X.N[2]? = some ("some" : Str)) (ls : X.env.scope.names.lookup ("some" : Str) = some .local) {es1 es2 es3 : List Expr} {bs1 bs2 : List Bool} {xs : List Str} {nm : Str} {scope : Scope}
    {p1 p2 p3 p4 p5 p6 p7 p8 p9 p10 p11 p12 p13 p14 p15 p16 p17 p18 p19 p20 p21 p22 p23 p24 p25 q0 q1 q2 q3 q4 q5 q6 q7 q8 q9 q10 q11 : Pos} {k1 k2 k3 : Nat} {any : List Stmt}
    (i1 : IsE X D es1 bs1) (i2 : IsE X D es2 bs2) (i3 : Strs es3 xs) (o : OneOf (bs1 ++ bs2) xs nm) (ve : PySem.W.kitOne X.K (.ref D) (.type "ValueError") = some true) (cs : compOk scope = true) (hl : (q4.endLine == q6.line) = true) {b3 : Nat} :
    PSs X [.Assign [.Name "flags" p1] (.List es1 p2) p3, .Assign [.Name "flags" p4] (.BinOp (.Name "flags" p5) .Add (.List es2 p6) p7) p8,
      .If (.BoolOp .Or [.Compare (.Call (.Name "sum" p9) [.ListComp (.Call (.Name "int" p10) [.Name "flag" p11] [] p12) [⟨.Name "flag" p13, .Name "flags" p14, [], 0⟩] scope p15] [] p16) [.NotEq] [.Constant (.int 1) k1 p17] p18,
        .UnaryOp .Not (.Call (.Name "isinstance" p19) [.Name "e" p20, .Name "ValueError" p21] [] p22) p23] p24) any [] p25,
      .Assign [.Name "some" q10] (.List es3 q2) q11,
      .Return (some (.Tuple [.Constant (.str "refused") k2 q1, .Subscript (.Name "some" q0) (.Call (.Attribute (.Name "flags" q3) "index" q4) [.Constant (.bool true) k3 q5] [] q6) q7] b3 q8)) q9]
      (fun Dn σ H => σ[0]? = some (some (.ref a)) ∧ 2 < σ.length ∧ ∀ H' p, News H H' → H' p = none → Dn.rt (.ref p) (upd H' p (.tup [.str "refused", .str nm]))) := by
  have ix := pe_bm (apos := q4) (cpos := q6) PySem.F.plainAttrs_list PySem.F.slot_list_index PySem.F.type_list_index mt_index (pe_var (X := X) (pos := q3) n.f (.inl n.lf)) (pa_cons (pe_bl (b := true) (j := k3) (pos := q5)) pa_nil) (hline := hl)
  have R := pss_one (ps_ret (pos := q9) (pe_tup (pos := q8) (x1 := b3) (pa_cons (pe_str (x := "refused") (j := k2) (pos := q1)) (pa_cons (pe_ix (pos := q7) ix_list (pe_var (pos := q0) hs (.inl ls)) ix (fun _ _ => rfl)) pa_nil))))
  have S := ps_set (pos := q11) (pos' := q10) n.nd hs (.inl ls) (pe_lst (pos := q2) (pa_strs (X := X) i3)) (hf := .inr ls)
  refine (pss_flags h n i1 i2 o ve cs (pss_cons S R)).wk fun Dn σ H q => ?_
  obtain ⟨q0, ql, q⟩ := q
  refine ⟨q0, by omega, fun σ' H' l b0 bl b1 hl' N => ?_⟩
  have olx := o.lenx
  have oln := o.len
  obtain ⟨j, j1, j2, j3⟩ := o.at_
  have hj := (List.getElem?_eq_some_iff.mp j1).1
  refine ⟨by rw [List.length_map]; exact small_bl olx, fun l5 e5 => ?_⟩
  have n5 : l ≠ l5 := fun e => by rw [← e, hl'] at e5; cases e5
  have g5 : upd H' l5 (.lst (xs.map V.str)) l = some (.lst ((bs1 ++ bs2).map V.bl)) := by rw [upd_ne n5]; exact hl'
  have f2 : (σ'.set 2 (some (V.ref l5)))[2]? = some (some (.ref l5)) := by
    rw [List.getElem?_set_self]
    omega
  have f1 : (σ'.set 2 (some (V.ref l5)))[1]? = some (some (.ref l)) := by simpa using b1
  refine ⟨_, f2, _, f1, .inl ⟨rfl, _, .inl (.inl g5)⟩, l, (bs1 ++ bs2).map V.bl, .bl true, j, .bl true, rfl, rfl, .inl (.inl g5), rfl, ?_, ?_, rfl, ?_, ?_⟩
  · rw [List.all_map]
    exact List.all_eq_true.mpr fun _ _ => rfl
  · rw [List.getElem?_map, j1]
    rfl
  · intro m z' hm hz
    rw [List.getElem?_map, j3 m hm] at hz
    cases hz
    rfl
  · refine ⟨l5, xs.map V.str, (j : Nat), .str nm, rfl, rfl, .inl (.inl upd_same), ?_, ?_⟩
    · exact atI_nat (by rw [List.getElem?_map, j2]; rfl)
    · exact ⟨by show 2 ≤ sizeLine; decide, fun p hp => q _ p (.step N e5) hp⟩
end
end MI

namespace MI
open PySem PySem.Spec PyProof.Rows L2 HotX
theorem Ext.ofN {H H1 : Hp} (e : LamX.ExtN H H1) (r : Rho) (n : Nat) : Ext H r n H1 r n where
  le := Nat.le_refl _
  same := fun _ _ => rfl
  keep := fun a o h t _ => e a o h t
  dom := fun a h o ho => by
    by_cases q : ∃ ps, o = .tbl ps
    · exact q
    · exact h o (e a o ho fun ps z => q ⟨ps, z⟩)
  fresh := fun l h1 h2 => absurd h2 (Nat.not_lt.mpr h1)
  frz := fun a o u h => e a _ h (fun _ z => by cases z)
theorem Rel.extN {K : PySem.W.Frag} {T : List (Addr × Str)} {ca : Str → Option Addr} {H H1 : Hp} {r : Rho} {h : AH} (R : Rel K T ca H r h) (e : LamX.ExtN H H1) (t : LamX.Tabs T H1) : Rel K T ca H1 r h where
  inj := R.inj
  obj := fun i o q => by
    have z := R.obj i o q
    obtain ⟨u, e1, e2, _⟩ := z.sm
    exact z.ext (Ext.ofN e r _) ((e _ _ e1 e2).trans e1.symm)
  tab := t
theorem News.rel {K : PySem.W.Frag} {T : List (Addr × Str)} {ca : Str → Option Addr} {H H1 : Hp} {r : Rho} {h : AH} (n : News H H1) (R : Rel K T ca H r h) : Rel K T ca H1 r h ∧ Ext H r h.length H1 r h.length := by
  induction n with
  | refl => exact ⟨R, Ext.refl _ _ _⟩
  | step n hp ih => exact ⟨ih.1.new hp, ih.2.trans (Ext.new r _ hp)⟩
/-- the word of an error of the class c is given back -/
def tWord (k : Nat) (a : Addr) (c : Str) : TS := fun Dn σ H => σ[0]? = some (some (.ref a)) ∧ k < σ.length ∧ ∀ H' p, News H H' → H' p = none → Dn.rt (.ref p) (upd H' p (.tup [.str "refused", .str c]))
/-- a def that tells of the error that is handled its word -/
structure WordF (K : PySem.W.Frag) (mg : Str → Option Value) (ca : Str → Option Addr) (told : List Str) (f : Addr) : Prop where
  ex : ∃ (name qual : Str) (params : Arguments) (body : List Stmt) (scope : Scope) (dV kV doc pm cdv ct oc : Value) (an od : Option Addr) (osl : Array (Option Value)) (N : List Str) (k : Nat),
    K.lookup f = some ⟨oc, od, .func (PySem.W.fnOf name qual params body scope dV kV doc pm an cdv ct), osl⟩ ∧ PySem.W.codeIn K cdv qual = true ∧ FnScope N ["e"] scope ∧ Binds K (PySem.W.fnOf name qual params body scope dV kV doc pm an cdv ct) ["e"] [] ∧ k < N.length ∧
    ∀ (X : Cx) (a C : Addr) (c : Str), X.K = K → X.mg = mg → X.N = N → X.env.scope = scope → told.contains c = true → ca c = some C → HotE X a C → PSs X body (tWord k a c)
  kp : PySem.W.keepIn K (.ref f) = true
section
variable {X : Cx} {ca : Str → Option Addr} {told : List Str} {f a C : Addr} {c : Str} {oe : Obj}
/-- _law_word(e), e being handled -/
theorem pe_word (W : WordF X.K X.mg ca told f) (ht : told.contains c = true) (hC : ca c = some C) (hot : L2H.Hot1 X.A (a, oe)) (hp : (a, oe) ∈ X.pn) (hz : Zc (.ref C) none oe) (ex : ExcC X.K C) (hr : L2H.RoomH 1 X.A)
    (hg : Gl X "_law_word") (hm : X.mg "_law_word" = some (.ref f)) (hN : X.N[1]? = some ("e" : Str)) (hv : Vis X.env.scope "e") {q q2 pos : Pos} :
    PE X (.Call (.Name "_law_word" q) [.Name "e" q2] [] pos) (fun σ H Q => σ[1]? = some (some (.ref a)) ∧ ∀ H' p, News H H' → H' p = none → Q (.ref p) (upd H' p (.tup [.str "refused", .str c]))) := by
  obtain ⟨name, qual, params, body, scope, dV, kV, doc, pm, cdv, ct, oc, an, od, osl, N, k, lk, hcd, S, hb, hk, hbody⟩ := W.ex
  refine ⟨fun pins s σ H Q I h => ?_⟩
  obtain ⟨h1, h2⟩ := h
  refine wpAny_Call_Name_kw (ld_glob I hg hm ?_ (by decide))
  refine PySem.W.callWith_K (h₀ := X.base) I.ok.mod.kin W.kp (thn ((pa_cons (pe_var (pos := q2) hN hv) pa_nil).run pos pins s σ H (fun vs H1 => vs = [.ref a] ∧ H1 = H) I ⟨_, h1, rfl, rfl⟩) fun us s1 ⟨vs, H1, I1, r, ev, eH⟩ => ⟨I1.kIn, ?_⟩) rfl rfl
  subst ev
  rw [eH] at I1
  have P1 := I1.pin (a, oe) (List.mem_append_left _ hp)
  have hpin : L2H.PinOk X.stack H s1 (a, oe) := ⟨P1.1, P1.2.1, fun z => (List.mem_cons.mp (I1.stkSub a z)).elim P1.2.2.1 P1.2.2.2.1, P1.2.2.2.2⟩
  have e0 := I1.env0
  have ul : us.length = ([("e" : Str)] : List Str).length := (Vals.length r).symm
  have b := hb s1 us I1.kIn (by rw [List.append_nil]; exact ul)
  rw [List.append_nil] at b
  have KX : X.K.In s1.heap := I1.kIn
  have lim : s1.heap.NoLimit := e0.mod.nolimit.keeps fun x o e => (e0.bs x o e).1
  have kinds : ∀ y ∈ ([("e" : Str)] : List Str).zip us, scope.names.lookup y.1 = some .local ∨ (scope.names.lookup y.1 = some .cell ∧ ((cellsFrom (s1.heap.objs.size + 1) scope.names []).lookup y.1).isSome = true) := fun ⟨n, v⟩ hy =>
    (S.par n (List.of_mem_zip hy).1).imp id fun z => ⟨z, PySem.W.cellsFrom_some _ _ _ (.inl z)⟩
  have run : codeAny (model X.prog X.w) X.A (.call (.ref f) ⟨us, []⟩) (CR C8.CX0 X.stack X.prog X.w H s1 Q C8.E0) s1 := by
    refine codeAny_call_function hr.depth (KX _ _ lk) rfl S.co S.gen rfl (PySem.W.codeRec_of KX hcd) (b _ _ _ _ (wpAny_newFunctionEnv_cells S.kind kinds fun env he s2 x => ?_))
    subst he
    refine ⟨lim.keeps x.toInCall.keep, codeAny_func ?_⟩
    have J : Inv (L2H.cxH C8.CX0 X.prog X.w X.K X.mg X.base N qual scope f cdv X.A X.stack s1 H C8.E0 (a, oe)) [] (L2.start N [.ref a]) H s2 := L2H.inv_startH S hpin e0 rfl r x
    obtain ⟨_, vz, ez, cz⟩ := id hot
    have hE : HotE (L2H.cxH C8.CX0 X.prog X.w X.K X.mg X.base N qual scope f cdv X.A X.stack s1 H C8.E0 (a, oe)) a C := ⟨⟨oe, List.mem_singleton.mpr rfl, hz, vz, ez⟩, ex, ⟨(a, oe), hot, List.mem_singleton.mpr rfl⟩⟩
    have B := hbody (L2H.cxH C8.CX0 X.prog X.w X.K X.mg X.base N qual scope f cdv X.A X.stack s1 H C8.E0 (a, oe)) a C c rfl rfl rfl rfl ht hC hE
    have st0 : (L2.start N [V.ref a])[0]? = some (some (.ref a)) := by
      unfold L2.start
      rfl
    have stl : k < (L2.start N [V.ref a]).length := by
      unfold L2.start
      simp
      omega
    refine wpAny_mono (B.run [] s2 (L2.start N [.ref a]) H { nx := fun _ _ => False, rt := Q } J ⟨st0, stl, h2⟩) (fun fl s3 hs => ?_) fun e s3 hs => hs
    cases fl with
    | ret u =>
      obtain ⟨v, σ', H', J', rv, q'⟩ := hs
      exact ⟨v, H', J'.os, J'.bare, J'.base, J'.hok, rv, q'⟩
    | next =>
      obtain ⟨_, _, _, z⟩ := hs
      exact z.elim
    | brk =>
      obtain ⟨_, _, _, z⟩ := hs
      exact z.elim
    | cont =>
      obtain ⟨_, _, _, z⟩ := hs
      exact z.elim
  refine wpAny_call (codeAny_mono run fun fr s2 hq => ?_)
  cases fr with
  | error e => exact (show False from hq).elim
  | ok fl =>
    cases fl with
    | ret u => exact I1.after hq
    | next => exact False.elim hq
    | brk => exact False.elim hq
    | cont => exact False.elim hq
end
section
variable {X : Cx} {pins : List (Addr × Obj)} {σ : L2.St} {H : Hp} {s : Shared}
/-- deed(), in the def that got the lambda -/
theorem pe_deed {sg : Scope} {g f c' : Addr} {cdg pm ctv : Value} {params : Arguments} {body : Expr} {scope : Scope} {k : Nat} {pn : List (Addr × Obj)} {xe : Value → Shared → Prop} {W : WX} {E : XK} {tb : TE} {p1 p2 : Pos}
    (I : Inv X pins σ H s) (L : LamX.LamS X.env.scope scope) (hf : s.heap.get? f = some (PySem.W.kla_obj "<lambda>" (X.env.qual ++ "<lambda>") params body scope (cloFrom X.env.cells scope.names []) pm c' ctv)) (hfn : H f = none) (hfr : f ∉ frs X.stack)
    (hbind : bindArgs (PySem.W.kla_fn "<lambda>" (X.env.qual ++ "<lambda>") params body scope (cloFrom X.env.cells scope.names []) pm (.ref c') ctv) ⟨[], []⟩ = pure [])
    (tk : L2N.Takes ((cxOf C8.CX0 X.prog X.w X.K X.mg X.base ["deed", "e"] "_law_told" sg g cdg X.A X.stack s H C8.E0).tr pn xe) W) (hW : ∀ cls d σ' H', σ'.length = 2 → E cls d H' → W cls d σ' H') (hr : Room (k + 1) (X.A.deeper (envOfC "_law_told" sg s.heap.objs.size g cdg)))
    (hbody : ∀ (A : Around) (outer : List Env) (s : Shared) (H : Hp), Room k (A.deeper (LamX.lamEnv X scope s.heap.objs.size f c')) → PE (lamCx X A outer s H E scope f c') body tb) (hv : Vis sg "deed") :
    PE ((cxOf C8.CX0 X.prog X.w X.K X.mg X.base ["deed", "e"] "_law_told" sg g cdg X.A X.stack s H C8.E0).tr pn xe) (.Call (.Name "deed" p1) [] [] p2)
      (fun σZ HZ Q => σZ[0]? = some (some (.ref f)) ∧ HZ c' = some (LamX.CodeO c' (X.env.qual ++ "<lambda>")) ∧ tb σ HZ Q) := by
  refine ⟨fun pinsZ sZ σZ HZ Q IZ h => ?_⟩
  obtain ⟨h0, hc, ht⟩ := h
  refine wpAny_Call_Name_kw (thn ((pe_var (pos := p1) (i := 0) rfl hv).run pinsZ sZ σZ HZ (fun v H1 => v = .ref f ∧ H1 = HZ) IZ ⟨.ref f, h0, rfl, rfl⟩) fun u s1 ⟨v, H1, I1, r1, ev, eH⟩ => ?_)
  subst ev
  rw [eH] at I1
  obtain rfl : u = Value.ref f := r1
  have at1 : s1.heap.get? f = some (PySem.W.kla_obj "<lambda>" (X.env.qual ++ "<lambda>") params body scope (cloFrom X.env.cells scope.names []) pm c' ctv) := I1.base.keep f _ hf hfn hfr (fun z => nomatch (show f ∈ ([] : List Addr) from z))
  have un : Un (frs X.stack) [] H HZ s.heap s1.heap := I1.base
  obtain ⟨⟨oc, vs, t, o1, o2, o3⟩, _, _⟩ := I1.hok c' _ hc
  have run : codeAny (model X.prog X.w) (X.A.deeper (envOfC "_law_told" sg s.heap.objs.size g cdg)) (.call (.ref f) ⟨[], []⟩) (CR (L2N.CX X.prog X.w) (envOfC "_law_told" sg s.heap.objs.size g cdg :: X.stack) X.prog X.w HZ s1 Q E) s1 := by
    refine PySem.W.kla_callFunE hr.depth at1 rfl L.co L.gen rfl ⟨c', oc, vs, t, rfl, o1, o2, o3⟩ ?_
    rw [hbind]
    refine wpAny_pure (wpAny_newFunctionEnv (fun y hy => (L.own y hy).2) (fun y hy => absurd hy (by simp)) (fun h2 ns sb => ⟨I1.nolimit.fresh _ sb, ?_⟩) L.kind)
    have kp : ∀ b o, s1.heap.get? b = some o → h2.get? b = some o := fun b o e => sb.extBut b o (Nat.ne_of_lt (Heap.lt_size e)) (Heap.get?_push_of_some _ e)
    have J := (LamX.lam_start2 (E := E) (f := f) (c' := c') (tk := s1.toks + ([] : List (Str × Value)).length) I L I1.env0 hr.hd un ns kp).toTry (lamCx X (X.A.deeper (envOfC "_law_told" sg s.heap.objs.size g cdg)) (envOfC "_law_told" sg s.heap.objs.size g cdg :: X.stack) s1 HZ E scope f c').xe
    refine PySem.W.kla_codeExpr (wpAny_mono ((hbody _ _ s1 HZ (hr.deeper _)).run [] _ _ HZ Q J ht) (fun v s2 hq => ?_) fun e s2 hq => hq)
    obtain ⟨w', H', J', rv, q⟩ := hq
    exact ⟨w', H', J'.os, J'.bare, J'.base, J'.hok, rv, q⟩
  refine PySem.W.callWith_F0 ⟨_, _, _, _, at1⟩ (wpAny_call (codeAny_mono run fun fr s2 hq => ?_))
  cases fr with
  | error e => exact tk e s2 (L2N.XE.of_call I1 (fun cls d H' z => hW cls d σZ H' I1.len z) hq)
  | ok fl =>
    cases fl with
    | ret u => exact I1.after hq
    | next => exact False.elim hq
    | brk => exact False.elim hq
    | cont => exact False.elim hq
end
/-- the def that tells what a deed tells, or the word of its error -/
structure ToldF (K : PySem.W.Frag) (mg : Str → Option Value) (ca : Str → Option Addr) (told : List Str) : Prop where
  ex : ∃ (g f CT : Addr) (pg : Arguments) (sg : Scope) (dV kV doc pm cdv ct oc : Value) (an od : Option Addr) (osl : Array (Option Value)) (p1 p2 p3 p4 p5 p6 p7 p8 p9 p10 : Pos) (bg : List Stmt),
    bg = [.Try [.Return (some (.Call (.Name "deed" p1) [] [] p2)) p3] [.ExceptHandler (some (.Name "TryError" p4)) (some "e") [.Return (some (.Call (.Name "_law_word" p5) [.Name "e" p6] [] p7)) p8] p9] [] [] p10] ∧
    mg "_law_told" = some (.ref g) ∧ PySem.W.keepIn K (.ref g) = true ∧ K.lookup g = some ⟨oc, od, .func (PySem.W.fnOf "_law_told" "_law_told" pg bg sg dV kV doc pm an cdv ct), osl⟩ ∧ PySem.W.codeIn K cdv "_law_told" = true ∧
    Binds K (PySem.W.fnOf "_law_told" "_law_told" pg bg sg dV kV doc pm an cdv ct) ["deed"] [] ∧ FnScope ["deed", "e"] ["deed"] sg ∧ sg.names.lookup ("deed" : Str) = some .local ∧ sg.names.lookup ("e" : Str) = some .local ∧
    sg.names.lookup ("TryError" : Str) = some .globalImplicit ∧ sg.names.lookup ("_law_word" : Str) = some .globalImplicit ∧ mg "TryError" = some (.ref CT) ∧ mg "_law_word" = some (.ref f) ∧ WordF K mg ca told f ∧
    ∀ c C, told.contains c = true → ca c = some C → PySem.W.exmOne K (.ref C) (.ref CT) = some true ∧ ExcC K C
theorem told_ok {K : PySem.W.Frag} {mg : Str → Option Value} {T : List (Addr × Str)} {ca : Str → Option Addr} {Pg : Prog} (F : ToldF K mg ca Pg.told) (k : Nat) (X : Cx) (E : XK) (cc P' : Addr) (scope : Scope) (params : Arguments) (body : Expr) (lpos p pos : Pos) (m : ASt → AH → R A)
    (hK : X.K = K) (hmg : X.mg = mg) (hg : Gl X "_law_told") (TB : LamX.TabB X.base mg cc P') (hcode : X.env.code = .ref cc) (hmT : (P', X.env.qual ++ "<lambda>") ∈ T) (hu : ∀ p ∈ T, p.1 = P' → p.2 = X.env.qual ++ "<lambda>") (hr : Room (k + 3) X.A) (L : LamX.LamS X.env.scope scope) (hnp : noParams params = true)
    (hbody : ∀ (A : Around) (outer : List Env) (s : Shared) (H : Hp) (E' : XK) (f c' : Addr), Room (k + 1) (A.deeper (LamX.lamEnv X scope s.heap.objs.size f c')) → PE (lamCx X A outer s H E' scope f c') body (tM K T ca (cW E') m)) :
    PE X (.Call (.Name "_law_told" p) [.Lambda params body scope lpos] [] pos) (tM K T ca (cW E) (mTold Pg m)) := by
  subst hK hmg
  obtain ⟨g, f, CT, pg, sg, dV, kV, doc, pm, cdv, ct, oc, an, od, osl, p1, p2, p3, p4, p5, p6, p7, p8, p9, p10, bg, rfl, mT, kT, lk, hcd, hb, Sg, l1, l2, l3, l4, m1, m2, Wd, cls⟩ := F.ex
  obtain ⟨a1, a2, a3, a4, a5, a6, a7⟩ : params.posonlyargs = [] ∧ params.args = [] ∧ params.vararg = none ∧ params.kwonlyargs = [] ∧ params.kw_defaults = [] ∧ params.kwarg = none ∧ params.defaults = [] := by
    unfold noParams at hnp
    simp only [Bool.and_eq_true, List.isEmpty_iff, Option.isNone_iff_eq_none] at hnp
    exact ⟨hnp.1.1.1.1.1.1, hnp.1.1.1.1.1.2, hnp.1.1.1.1.2, hnp.1.1.1.2, hnp.1.1.2, hnp.1.2, hnp.2⟩
  obtain ⟨b1, b2, b3, b4, b5, b6, b7⟩ := params
  dsimp only at a1 a2 a3 a4 a5 a6 a7
  subst a1 a2 a3 a4 a5 a6 a7
  refine ⟨fun pins s σ H Q I h => ?_⟩
  obtain ⟨r, st, hh, R, S, Pq⟩ := h
  refine wpAny_Call_Name_kw (ld_glob I hg mT ?_ (by decide))
  refine PySem.W.callWith_K (h₀ := X.base) I.ok.mod.kin kT ?_ rfl rfl
  show wpAny _ _ (spliced ((false, eval (.Lambda ⟨[], [], none, [], [], none, []⟩ body scope lpos) X.env) :: backTo pos (starEach [] X.env))) _ _ s
  refine Calls.spliced_cons (LamX.lam_make2 I TB hcode hmT hu R.tab rfl (L.has I.ok) fun lf c' pm' ctv H1 s' I1 eN T1 hf hfn hfr hco => ?_)
  refine Calls.spliced_nil ⟨I1.kIn, ?_⟩
  have run : codeAny (model X.prog X.w) X.A (.call (.ref g) ⟨[.ref lf], []⟩) (CR C8.CX0 X.stack X.prog X.w H1 s' Q C8.E0) s' := by
    refine LamX.run_ofS (k := k + 2) (N := ["deed", "e"]) (ps := ["deed"]) (us := [.ref lf]) (vs := [.ref lf]) lk hcd Sg hr I1.env0 (hb s' [.ref lf] I1.kIn rfl) (.cons rfl .nil) rfl fun hr' => ?_
    have B : PSs (cxOf C8.CX0 X.prog X.w X.K X.mg X.base ["deed", "e"] "_law_told" sg g cdv X.A X.stack s' H1 C8.E0).nox _ _ := pss_one (L2N.ps_try_as (X := (cxOf C8.CX0 X.prog X.w X.K X.mg X.base ["deed", "e"] "_law_told" sg g cdv X.A X.stack s' H1 C8.E0).nox) (x := "TryError") (n := "e") (c := .ref CT) (i := 1)
        (body := [.Return (some (.Call (.Name "deed" p1) [] [] p2)) p3]) (b₀ := .Return (some (.Call (.Name "_law_word" p5) [.Name "e" p6] [] p7)) p8) (suite := []) (np := p4) (pos := p10) (pos' := p9) (Wout := fun _ _ _ _ => False)
        (tb := fun W D σZ HZ => ∃ Ech : XK, (∀ cls d σ' H', σ'.length = 2 → Ech cls d H' → W cls d σ' H') ∧ σZ[0]? = some (some (.ref lf)) ∧ HZ c' = some (LamX.CodeO c' (X.env.qual ++ "<lambda>")) ∧ tM X.K T ca (cW Ech) m σ HZ D.rt)
        (ts := fun a cls d Dn σZ HZ => ∃ c C, cls = .ref C ∧ d = none ∧ Pg.told.contains c = true ∧ ca c = some C ∧ σZ[1]? = some (some (.ref a)) ∧ ∀ H' p, News HZ H' → H' p = none → Dn.rt (.ref p) (upd H' p (.tup [.str "refused", .str c])))
        rfl rfl Sg.nd rfl l2 ⟨l3, by decide, .inl m1⟩ takesN0 (fun W pn xe tk _ => ?_) (fun a oe cl d pn hz hd => ?_))
    · refine ⟨_, B.nox, ?_⟩
      refine ⟨fun cl d H' => ∃ c C, cl = .ref C ∧ d = none ∧ Pg.told.contains c = true ∧ ca c = some C ∧ ∀ H'' p, News H' H'' → H'' p = none → Q (.ref p) (upd H'' p (.tup [.str "refused", .str c])), ?_, rfl, hco, r, st, hh, R.extN eN T1, S.ext (Ext.ofN eN r _), ?_⟩
      · rintro cl d σ' H' hl ⟨c, C, rfl, rfl, t1, t2, q⟩
        refine ⟨true, (cls c C t1 t2).1, fun _ a _ => ⟨c, C, rfl, rfl, t1, t2, ?_, q⟩, fun z => by cases z⟩
        rw [List.getElem?_set_self (by omega)]
      · unfold mTold at Pq
        cases em : m st hh with
        | ok v h1 =>
          rw [em] at Pq
          exact fun r' H' u e R' ra => Pq r' H' u ((Ext.ofN eN r _).trans e) R' ra
        | bad =>
          rw [em] at Pq
          exact Pq
        | exc c h1 =>
          rw [em] at Pq
          intro C r' H' hC e R'
          by_cases t : Pg.told.contains c = true
          · simp only [t, if_true] at Pq
            refine ⟨c, C, rfl, rfl, t, hC, fun H'' p n hp => ?_⟩
            obtain ⟨R2, e2⟩ := n.rel R'
            exact Pq r' _ (.ref p) (((Ext.ofN eN r _).trans e).trans (e2.trans (Ext.new r' _ hp))) (R2.new hp) (.tup ⟨upd_same, fun l hl z => R2.notNew hp l hl z⟩ (.cons (.str _) (.cons (.str _) .nil)))
          · have t : Pg.told.contains c = false := by simpa using t
            simp only [t, Bool.false_eq_true, if_false] at Pq
            exact Pq.elim
    · refine ⟨fun pinsZ sZ σZ HZ D IZ h' => ?_⟩
      obtain ⟨Ech, hW, h1, h2, h3⟩ := h'
      exact (pss_one (ps_ret (pos := p3) (pe_deed (p1 := p1) (p2 := p2) I1 L hf hfn hfr rfl tk hW hr' (fun A outer s H hr2 => hbody A outer s H Ech lf c' hr2) (.inl l1)))).run pinsZ sZ σZ HZ D IZ ⟨h1, h2, h3⟩
    · refine ⟨fun pinsZ sZ σZ HZ D IZ h' => ?_⟩
      obtain ⟨c, C, rfl, rfl, t1, t2, h1, h2⟩ := h'
      obtain ⟨vs, hd⟩ := hd
      refine (pss_one (ps_ret (pos := p8) (pe_word (X := ((cxOf C8.CX0 X.prog X.w X.K X.mg X.base ["deed", "e"] "_law_told" sg g cdv X.A X.stack s' H1 C8.E0).nox).suite a ((a, oe) :: pn)) (oe := oe) (q := p5) (q2 := p6) (pos := p7) Wd t1 t2 ⟨rfl, vs, hd, hz.2.2 vs hd⟩ List.mem_cons_self hz.zc (cls c C t1 t2).2 ?_ l4 m2 rfl (.inl l2)))).run pinsZ sZ σZ HZ D IZ ⟨h1, h2⟩
      have rm : L2H.RoomH 1 (X.A.deeper (envOfC "_law_told" sg s'.heap.objs.size g cdv)) := (L2H.roomH_of hr').mono (by omega)
      exact ⟨rm.dp, rm.un⟩
  refine wpAny_call (codeAny_mono run fun fr s2 hq => ?_)
  cases fr with
  | error e => exact (show False from hq).elim
  | ok fl =>
    cases fl with
    | ret u => exact I1.after hq
    | next => exact False.elim hq
    | brk => exact False.elim hq
    | cont => exact False.elim hq
end MI

namespace MI
open PySem PySem.Spec PyProof.Rows L2
/-- a def of the program: its key, its place, its text, its parameters, its names, whether it makes lambdas -/
structure DX where
  key : Str
  at_ : He.Defn
  st : Stmt
  ps : List Str
  N : List Str
  lam : Bool
def DX.name (d : DX) : Str := d.at_.2.getD d.at_.1
def DX.qual (d : DX) : Str := match d.at_.2 with
  | none => d.at_.1
  | some m => d.at_.1 ++ "." ++ m
def DX.dd (d : DX) : He.DefD := ⟨d.at_, d.name, d.qual, defArgs d.st, defBody d.st, defScope d.st, [], []⟩
/-- parameters that are all written, none with a default -/
def BindOk (ps : List Str) (name qual : Str) (st : Stmt) : Prop := ∀ (kV doc pm : Value) (an : Option Addr) (cdv ct : Value) (us : List Value), us.length = ps.length → bindArgs (PySem.W.fnOf name qual (defArgs st) (defBody st) (defScope st) .none kV doc pm an cdv ct) ⟨us, []⟩ = pure (ps.zip us)
def fnScopeB (N ps : List Str) (sc : Scope) : Bool := decide (sc.kind = .function) && !sc.isCoroutine && !sc.isGenerator && decide N.Nodup && decide (N.take ps.length = ps) && ps.all (fun x => decide (sc.names.lookup x = some .local) || decide (sc.names.lookup x = some .cell)) && sc.names.all fun y => !decide (y.2 = .free)
theorem fnScope_of {N ps : List Str} {sc : Scope} (h : fnScopeB N ps sc = true) : FnScope N ps sc := by
  simp only [fnScopeB, Bool.and_eq_true, List.all_eq_true, decide_eq_true_eq, Bool.not_eq_true', decide_eq_false_iff_not, Bool.or_eq_true] at h
  obtain ⟨⟨⟨⟨⟨⟨h1, h2⟩, h3⟩, h4⟩, h5⟩, h6⟩, h7⟩ := h
  exact ⟨h1, h2, h3, h4, h5, h6, h7⟩
/-- a def's text and its small form agree -/
structure DOk (gl : List (Str × Gk)) (al : List (Nat × Nat)) (d : DX) (fn : Fn) : Prop where
  S : fnScopeB d.N d.ps (defScope d.st) = true
  slots : d.N.length = fn.slots
  np : d.ps.length = fn.ps
  cmp : cSs 300 ⟨d.N, defScope d.st, none, gl, al, d.lam⟩ (defBody d.st) = some fn.body
  b : BindOk d.ps d.name d.qual d.st
inductive Both (gl : List (Str × Gk)) (al : List (Nat × Nat)) : List DX → List (Str × Fn) → Prop
  | nil : Both gl al [] []
  | cons {d : DX} {fn : Fn} {ds : List DX} {fs : List (Str × Fn)} : DOk gl al d fn → Both gl al ds fs → Both gl al (d :: ds) ((d.key, fn) :: fs)
theorem Both.find {gl : List (Str × Gk)} {al : List (Nat × Nat)} {ds : List DX} {fs : List (Str × Fn)} (b : Both gl al ds fs) {key : Str} {fn : Fn} (h : fs.lookup key = some fn) : ∃ d, d ∈ ds ∧ ds.find? (fun d => d.key == key) = some d ∧ DOk gl al d fn := by
  induction b with
  | nil => cases h
  | @cons d f ds fs ok b ih =>
    rw [List.lookup_cons] at h
    by_cases e : key = d.key
    · rw [show (key == d.key) = true from by simp [e]] at h
      cases h
      exact ⟨d, List.mem_cons_self, by rw [List.find?_cons, show (d.key == key) = true from by simp [e]], ok⟩
    · rw [show (key == d.key) = false from by simpa using e] at h
      obtain ⟨d', h1, h2, h3⟩ := ih h
      exact ⟨d', List.mem_cons_of_mem _ h1, by rw [List.find?_cons, show (d.key == key) = false from by simpa using fun z => e z.symm]; exact h2, h3⟩
def fdAt (K : PySem.W.Frag) (a : Addr) : FuncData := match K.lookup a with
  | some ⟨_, _, .func fd, _⟩ => fd
  | _ => PySem.W.fnOf "" "" ⟨[], [], none, [], [], none, []⟩ [] ⟨.function, [], false, false, []⟩ .none .none .none .none none .none .none
def DX.fr (K : PySem.W.Frag) (d : DX) : FnR := ⟨He.fAd K d.at_, fdAt K (He.fAd K d.at_), d.ps, d.N, d.st, d.name, d.qual, if d.lam then some (He.cT K d.at_) else none⟩
def tbOf (K : PySem.W.Frag) (ds : List DX) (key : Str) : Option FnR := (ds.find? fun d => d.key == key).map (DX.fr K)
def caOf (K : PySem.W.Frag) (cs : List Str) (c : Str) : Option Addr := if cs.contains c then some (He.ga K c) else none
/-- constants of the module -/
def flatC : A → Value → Bool
  | .non, .none => true
  | .bl a, .bool b => a == b
  | .int i, .int j _ => decide (i = j)
  | .str x, .str y _ => decide (x = y)
  | _, _ => false
theorem flatC_ok {K : PySem.W.Frag} {a : A} {u : Value} (h : flatC a u = true) : ∃ v, RelV v u ∧ ∀ H r m, RA K H r m a v := by
  unfold flatC at h
  split at h
  · exact ⟨.non, rfl, fun _ _ _ => .non⟩
  · rename_i a b
    have e : a = b := by simpa using h
    exact ⟨.bl a, by rw [e]; rfl, fun _ _ _ => .bl a⟩
  · rename_i i j t
    have e : i = j := by simpa using h
    exact ⟨.int i, by rw [e]; exact ⟨t, rfl⟩, fun _ _ _ => .int i⟩
  · rename_i x y t
    have e : x = y := by simpa using h
    exact ⟨.str x, by rw [e]; exact ⟨t, rfl⟩, fun _ _ _ => .str x⟩
  · cases h
def tupA (K : PySem.W.Frag) (f : A → Value → Bool) : A → Value → Bool
  | .tup xs, .ref p => match K.lookup p with
    | some ⟨.type "tuple", _, .seq its _, _⟩ => decide (its.size ≤ sizeLine) && decide (xs.length = its.toList.length) && (xs.zip its.toList).all fun q => f q.1 q.2
    | _ => false
  | _, _ => false
def conB (K : PySem.W.Frag) : Nat → A → Value → Bool
  | 0, a, u => flatC a u
  | n + 1, a, u => flatC a u || tupA K (conB K n) a u
theorem conB_ok {K : PySem.W.Frag} : ∀ (n : Nat) (a : A) (u : Value), conB K n a u = true → ∃ v, RelV v u ∧ ∀ H r m, RA K H r m a v
  | 0, a, u, h => flatC_ok h
  | n + 1, a, u, h => by
    unfold conB at h
    rw [Bool.or_eq_true] at h
    rcases h with h | h
    · exact flatC_ok h
    unfold tupA at h
    split at h
    · rename_i xs p
      split at h
      · rename_i dd its k sl e
        simp only [Bool.and_eq_true, decide_eq_true_eq] at h
        obtain ⟨⟨h1, h2⟩, h3⟩ := h
        have all : ∀ (xs : List A) (us : List Value), xs.length = us.length → ((xs.zip us).all fun q => conB K n q.1 q.2) = true → ∃ vs, Vals vs us ∧ ∀ H r m, RAs K H r m xs vs := fun xs => by
          induction xs with
          | nil =>
            intro us hl _
            cases us with
            | nil => exact ⟨[], .nil, fun _ _ _ => .nil⟩
            | cons _ _ => cases hl
          | cons x xs ih =>
            intro us hl ha
            cases us with
            | nil => cases hl
            | cons u us =>
              simp only [List.zip_cons_cons, List.all_cons, Bool.and_eq_true] at ha
              obtain ⟨v, r1, r2⟩ := conB_ok n x u ha.1
              obtain ⟨vs, q1, q2⟩ := ih us (by simpa using hl) ha.2
              exact ⟨v :: vs, .cons r1 q1, fun H r m => .cons (r2 H r m) (q2 H r m)⟩
        obtain ⟨vs, q1, q2⟩ := all xs its.toList h2 h3
        exact ⟨.ref p, rfl, fun H r m => .tupK ⟨_, its, k, e, rfl, rfl, h1, q1⟩ (q2 H r m)⟩
      · cases h
    · cases h
/-- what the head must tell: facts -/
def gkFa (x : Str) : Gk → List He.Fa
  | .fn _ => [.glo x]
  | .cls _ => [.glo x, .mkr x]
  | .exc _ => [.glo x, .exc x]
  | .val _ => []
def faOf (gl : List (Str × Gk)) (cls : List (Str × ClsI)) : List He.Fa :=
  blts.map .free ++ (gl.flatMap fun q => gkFa q.1 q.2) ++ (cls.flatMap fun q => .cls q.1 :: (q.2.attrs.map (.noat q.1) ++ q.2.meths.map fun m => .meth q.1 m.1)) ++ [.free "ValueError", .glo "_law_told", .glo "_law_word", .glo "TryError"]
def lamsOf (ds : List DX) : List DX := ds.filter (·.lam)
def valsB (K : PySem.W.Frag) (gl : List (Str × Gk)) : Bool := gl.all fun q => match q.2 with
  | .val a => (match PySem.W.nsIn K mainGlobals q.1 with
    | some (some u) => conB K 4 a u
    | _ => false)
  | _ => true
def apartB (K : PySem.W.Frag) (ds : List DX) : Bool := (lamsOf ds).all fun d => (lamsOf ds).all fun e => (He.cT K d.at_).2 != (He.cT K e.at_).2 || d.qual == e.qual
/-- .. and what the text must say of names, classes -/
def glB (ds : List DX) (gl : List (Str × Gk)) (cls : List (Str × ClsI)) (cs : List Str) : Bool := (gl.all fun q => match q.2 with
  | .fn key => (match ds.find? (fun d => d.key == key) with
    | some d => d.at_ == (q.1, none)
    | none => false)
  | .cls c => c == q.1 && cs.contains c && (match cls.lookup c with
    | some ci => (match ci.init with
      | some g => (match ds.find? (fun d => d.key == g) with
        | some d => d.at_ == (c, some ("__init__" : Str))
        | none => false)
      | none => false)
    | none => false)
  | .exc c => c == q.1 && cs.contains c
  | .val _ => true) && cls.all fun q => cs.contains q.1 && q.2.meths.all fun m => match ds.find? (fun d => d.key == m.2) with
    | some d => d.at_ == (q.1, some m.1)
    | none => false
theorem mem_of_lookup {α : Type} {x : Str} {a : α} : ∀ {l : List (Str × α)}, l.lookup x = some a → (x, a) ∈ l := fun h => PySem.mem_of_lookup h
def tabsOf (K : PySem.W.Frag) (ds : List DX) : List (Addr × Str) := (lamsOf ds).map fun d => ((He.cT K d.at_).2, (d.qual ++ ".<locals>.") ++ "<lambda>")
section
variable {P : Program} {w : World} {K : PySem.W.Frag} {mg : Str → Option Value} {base h : Heap} {Pg : Prog} {gl : List (Str × Gk)} {al : List (Nat × Nat)} {ds ms : List DX} {cs : List Str} {fa : List He.Fa}
theorem stat_of (X : K.In h) (G : h.Ns mainGlobals mg) (B : Both gl al ds Pg.fns) (hg : glB ds gl Pg.cls cs = true) (hfk : ∀ key d, ds.find? (fun d => d.key == key) = some d → ∃ fn, Pg.fns.lookup key = some fn)
    (c : He.SaysD fa ((ds ++ ms).map DX.dd) K) (hfa : ∀ f ∈ faOf gl Pg.cls, f ∈ fa) (hv : valsB K gl = true) (ha : apartB K ds = true)
    (TB : ∀ d ∈ lamsOf ds, LamX.TabB base mg (He.cT K d.at_).1 (He.cT K d.at_).2) (TF : ToldF K mg (caOf K cs) Pg.told) : Stat P w K mg base (tabsOf K ds) (caOf K cs) Pg gl al (tbOf K ds) := by
  have fact : ∀ f ∈ faOf gl Pg.cls, f.ok K = true := fun f hf => c.facts (hfa f hf)
  have fun_ : ∀ d ∈ ds, ∃ fd, FunD K d.name d.qual (defArgs d.st) (defBody d.st) (defScope d.st) [] [] (He.fAd K d.at_) fd := fun d hd => c.defs (d := d.dd) (List.mem_map.mpr ⟨d, List.mem_append_left _ hd, rfl⟩)
  have inGl : ∀ (x : Str) (g : Gk) (f : He.Fa), (x, g) ∈ gl → f ∈ gkFa x g → f.ok K = true := fun x g f h1 h2 => fact f (by
    unfold faOf
    refine List.mem_append_left _ (List.mem_append_left _ (List.mem_append_right _ (List.mem_flatMap.mpr ⟨(x, g), h1, ?_⟩)))
    exact h2)
  have inCls : ∀ (cn : Str) (ci : ClsI) (f : He.Fa), (cn, ci) ∈ Pg.cls → f ∈ He.Fa.cls cn :: (ci.attrs.map (.noat cn) ++ ci.meths.map fun m => .meth cn m.1) → f.ok K = true := fun cn ci f h1 h2 => fact f (by
    unfold faOf
    exact List.mem_append_left _ (List.mem_append_right _ (List.mem_flatMap.mpr ⟨(cn, ci), h1, h2⟩)))
  unfold glB at hg
  rw [Bool.and_eq_true, List.all_eq_true, List.all_eq_true] at hg
  obtain ⟨hg1, hg2⟩ := hg
  have fdEq : ∀ (d : DX) (fd : FuncData), FunD K d.name d.qual (defArgs d.st) (defBody d.st) (defScope d.st) [] [] (He.fAd K d.at_) fd → fdAt K (He.fAd K d.at_) = fd := fun d fd F => by
    obtain ⟨oc, od, dV, kV, doc, pm, an, cdv, ct, osl, _, lk, _⟩ := F.ex
    unfold fdAt
    rw [lk]
  refine {
    fns := fun key fn h => ?_
    blt := fun x h => ?_
    val := fun x a h => ?_
    fn := fun x key h => ?_
    cls := fun x cn h => ?_
    exc := fun x cn h => ?_
    clsOk := ⟨fun cn ci h => ?_, fun cn ci f C h1 h2 h3 => ?_⟩
    meth := fun mn cn ci g h1 h2 => ?_
    told := fun k Y E cc P' scope params body lpos p pos m h1 h2 h3 h4 h5 h6 h7 h8 h9 h10 h11 h12 h13 h14 => ?_ }
  · obtain ⟨d, hd, hf, ok⟩ := B.find h
    obtain ⟨fd, F⟩ := fun_ d hd
    have e := fdEq d fd F
    refine ⟨d.fr K, by unfold tbOf; rw [hf]; rfl, ?_, fnScope_of ok.S, ok.slots, ok.np, ?_, ?_, ?_⟩
    · obtain ⟨oc, od, dV, kV, doc, pm, an, cdv, ct, osl, efd, lk, hcd, hD, hK⟩ := F.ex
      rcases hD with ⟨_, rfl⟩ | ⟨z, _⟩
      · refine ⟨oc, od, kV, doc, pm, an, cdv, ct, osl, e.trans efd, ?_, hcd, fun c' P' hl => ?_⟩
        · show K.lookup (He.fAd K d.at_) = some ⟨oc, od, .func (fdAt K (He.fAd K d.at_)), osl⟩
          rw [e]
          exact lk
        · obtain ⟨c0, ec⟩ := He.codeIn_ref hcd
          have e0 : He.codeOf K d.at_ = c0 := He.codeOf_eq lk (by rw [efd]; exact ec)
          have hl : (if d.lam then some (He.cT K d.at_) else none) = some (c', P') := hl
          split at hl
          · have := congrArg Prod.fst (Option.some.inj hl)
            rw [ec, ← e0]
            exact congrArg Value.ref this
          · cases hl
      · exact absurd rfl z
    · show cSs 300 ⟨d.N, defScope d.st, none, gl, al, (if d.lam then some (He.cT K d.at_) else none).isSome⟩ (defBody d.st) = some fn.body
      have : (if d.lam then some (He.cT K d.at_) else none).isSome = d.lam := by cases d.lam <;> rfl
      rw [this]
      exact ok.cmp
    · show Binds K (fdAt K (He.fAd K d.at_)) d.ps []
      rw [e]
      exact F.bindsN ok.b
    · intro c' P' hl
      have hl : (if d.lam then some (He.cT K d.at_) else none) = some (c', P') := hl
      split at hl
      · rename_i hlam
        have ml : d ∈ lamsOf ds := List.mem_filter.mpr ⟨hd, by simpa using hlam⟩
        have el := Option.some.inj hl
        have e1 : (He.cT K d.at_).1 = c' := congrArg Prod.fst el
        have e2 : (He.cT K d.at_).2 = P' := congrArg Prod.snd el
        refine ⟨by rw [← e1, ← e2]; exact TB d ml, List.mem_map.mpr ⟨d, ml, by rw [← e2]; rfl⟩, fun p hp ep => ?_⟩
        obtain ⟨d', m', rfl⟩ := List.mem_map.mp hp
        have q := List.all_eq_true.mp (List.all_eq_true.mp ha d' m') d ml
        rw [Bool.or_eq_true] at q
        rcases q with q | q
        · have ep : (He.cT K d'.at_).2 = P' := ep
          rw [ep, ← e2] at q
          simp at q
        · have q : d'.qual = d.qual := by simpa using q
          show (d'.qual ++ ".<locals>.") ++ "<lambda>" = (d.qual ++ ".<locals>.") ++ "<lambda>"
          rw [q]
      · cases hl
  · refine He.free_ok X G (fact _ ?_)
    unfold faOf
    exact List.mem_append_left _ (List.mem_append_left _ (List.mem_append_left _ (List.mem_map.mpr ⟨x, by simpa using h, rfl⟩)))
  · have := List.all_eq_true.mp hv _ (mem_of_lookup h)
    dsimp only at this
    split at this
    · rename_i u e
      obtain ⟨v, r1, r2⟩ := conB_ok 4 a u this
      exact ⟨v, u, PySem.W.mg_of X G e, r1, r2⟩
    · cases this
  · have m := mem_of_lookup h
    have q := hg1 _ m
    dsimp only at q
    split at q
    · rename_i d hd
      obtain ⟨fn, hf⟩ := hfk key d hd
      have e : d.at_ = (x, none) := by simpa using q
      have ga : He.fAd K d.at_ = He.ga K x := by rw [e]; rfl
      obtain ⟨fd, F⟩ := fun_ d (List.mem_of_find?_eq_some hd)
      refine ⟨d.fr K, fn, hf, by unfold tbOf; rw [hd]; rfl, ?_, F.kp⟩
      show mg x = some (.ref (He.fAd K d.at_))
      rw [ga]
      exact He.glo_ok X G (inGl x _ _ m (by simp [gkFa]))
    · cases q
  · have m := mem_of_lookup h
    have q := hg1 _ m
    dsimp only at q
    rw [Bool.and_eq_true, Bool.and_eq_true] at q
    obtain ⟨⟨q1, q2⟩, q⟩ := q
    have q1 : cn = x := by simpa using q1
    subst q1
    split at q
    · rename_i ci hci
      split at q
      · rename_i g hgi
        split at q
        · rename_i d hd
          obtain ⟨fn, hf⟩ := hfk g d hd
          have e : d.at_ = (cn, some ("__init__" : Str)) := by simpa using q
          refine ⟨He.ga K cn, ci, g, d.fr K, fn, He.glo_ok X G (inGl cn _ _ m (by simp [gkFa])), if_pos q2, hci, hgi, hf, by unfold tbOf; rw [hd]; rfl, ?_⟩
          have := He.mkr_ok (inGl cn _ (.mkr cn) m (by simp [gkFa]))
          show Mk K (He.ga K cn) (He.fAd K d.at_)
          rw [e]
          exact this
        · cases q
      · cases q
    · cases q
  · have m := mem_of_lookup h
    have q := hg1 _ m
    dsimp only at q
    rw [Bool.and_eq_true] at q
    have q1 : cn = x := by simpa using q.1
    subst q1
    obtain ⟨e1, e2, e3, e4⟩ := He.exc_ok (inGl cn _ (.exc cn) m (by simp [gkFa]))
    exact ⟨He.ga K cn, He.glo_ok X G (inGl cn _ (.glo cn) m (by simp [gkFa])), if_pos q.2, e1, e2, e3, e4⟩
  · have m := mem_of_lookup h
    have q := hg2 _ m
    rw [Bool.and_eq_true] at q
    exact ⟨He.ga K cn, if_pos q.1, He.cls_ok (inCls cn ci _ m List.mem_cons_self)⟩
  · have m := mem_of_lookup h1
    have q := hg2 _ m
    rw [Bool.and_eq_true] at q
    have e : caOf K cs cn = some (He.ga K cn) := if_pos q.1
    rw [e] at h3
    cases h3
    exact He.noat_ok (inCls cn ci (.noat cn f) m (List.mem_cons_of_mem _ (List.mem_append_left _ (List.mem_map.mpr ⟨f, by simpa using h2, rfl⟩))))
  · have m := mem_of_lookup h1
    have q := hg2 _ m
    rw [Bool.and_eq_true, List.all_eq_true] at q
    have m2 := mem_of_lookup h2
    have q2 := q.2 _ m2
    dsimp only at q2
    split at q2
    · rename_i d hd
      have e : d.at_ = (cn, some mn) := by simpa using q2
      obtain ⟨fn, hf⟩ := hfk g d hd
      refine ⟨He.ga K cn, d.fr K, fn, if_pos q.1, He.cls_ok (inCls cn ci _ m List.mem_cons_self), ?_, hf, by unfold tbOf; rw [hd]; rfl⟩
      have := He.meth_ok (inCls cn ci (.meth cn mn) m (List.mem_cons_of_mem _ (List.mem_append_right _ (List.mem_map.mpr ⟨(mn, g), m2, rfl⟩))))
      show Meth K (He.ga K cn) mn (He.fAd K d.at_)
      rw [e]
      exact this
    · cases q2
  · subst h1 h2 h3 h4 h5
    exact told_ok TF k Y E cc P' scope params body lpos p pos m rfl rfl h6 h7 h8 h9 h10 h11 h12 h13 h14
end
end MI

namespace MI
open PySem PySem.Spec PyProof.Rows L2
def excCB (K : PySem.W.Frag) (D : Addr) : Bool :=
  decide (PySem.W.findIn K (.ref D) "__getattribute__" = some (some (.builtin "BaseException.__getattribute__"))) && decide (PySem.W.findIn K (.ref D) "__getattr__" = some none) && decide (PySem.W.subIn K (.ref D) (.type "BaseException") = some true) && PySem.W.hasDictIn K D &&
    decide (PySem.W.findIn K (.ref D) "__class__" = some (some (.builtin "object.__class__"))) && decide (PySem.W.specialIn K (.builtin "object.__class__") "__get__" = some (some (.builtin "getset_descriptor.__get__"))) &&
    decide (PySem.W.takesIn K (.builtin "object.__class__") = some true) && decide (PySem.W.mroIn K D (.type "object") = some true)
theorem excC_of {K : PySem.W.Frag} {D : Addr} (h : excCB K D = true) : ExcC K D := by
  simp only [excCB, Bool.and_eq_true, decide_eq_true_eq] at h
  obtain ⟨⟨⟨⟨⟨⟨⟨h1, h2⟩, h3⟩, h4⟩, h5⟩, h6⟩, h7⟩, h8⟩ := h
  exact ⟨h1, h2, h3, h4, h5, h6, h7, h8⟩
/-- the classes ws: of an error of the class c, c is the only one -/
def wordB (K : PySem.W.Frag) (ws told : List Str) : Bool := told.all fun c => ws.contains c && (ws.all fun d => decide (PySem.W.kitOne K (.ref (He.ga K c)) (.ref (He.ga K d)) = some (decide (d = c)))) &&
  decide (PySem.W.kitOne K (.ref (He.ga K c)) (.type "ValueError") = some true) && decide (PySem.W.exmOne K (.ref (He.ga K c)) (.ref (He.ga K "TryError")) = some true) && excCB K (He.ga K c)
inductive IsT : List Expr → List Str → Prop
  | nil : IsT [] []
  | cons {c : Str} {p p1 p2 p3 : Pos} {es : List Expr} {ws : List Str} : IsT es ws → IsT (.Call (.Name "isinstance" p) [.Name "e" p1, .Name c p2] [] p3 :: es) (c :: ws)
section
variable {X : Cx} {a D : Addr} {c : Str}
theorem isE_of {es : List Expr} {ws : List Str} (t : IsT es ws) (h1 : ∀ d ∈ ws, Gl X d ∧ X.mg d = some (.ref (He.ga X.K d)) ∧ (d == ("__debug__" : Str)) = false ∧ PySem.W.kitOne X.K (.ref D) (.ref (He.ga X.K d)) = some (decide (d = c))) : IsE X D es (ws.map fun d => decide (d = c)) := by
  induction t with
  | nil => exact .nil
  | cons t ih =>
    obtain ⟨g, m, n, k⟩ := h1 _ List.mem_cons_self
    exact .cons g m n k (ih fun d hd => h1 d (List.mem_cons_of_mem _ hd))
end
theorem one_sum {c : Str} : ∀ {ws : List Str}, ws.Nodup → ((ws.map fun d => decide (d = c)).map fun b => if b then (1 : Int) else 0).sum = if c ∈ ws then 1 else 0
  | [], _ => by simp
  | d :: ws, h => by
    have h2 := List.nodup_cons.mp h
    have ih := one_sum (c := c) h2.2
    simp only [List.map_cons, List.sum_cons]
    rw [ih]
    by_cases e : d = c
    · subst e
      simp [h2.1]
    · have e2 : ¬ c = d := fun z => e z.symm
      simp [e, e2]
theorem one_at {c : Str} : ∀ {ws : List Str}, c ∈ ws → ∃ j : Nat, (ws.map fun d => decide (d = c))[j]? = some true ∧ ws[j]? = some c ∧ ∀ m, m < j → (ws.map fun d => decide (d = c))[m]? = some false
  | [], h => by simp at h
  | d :: ws, h => by
    by_cases e : d = c
    · exact ⟨0, by simp [e], by simp [e], fun m hm => absurd hm (Nat.not_lt_zero _)⟩
    · have h2 : c ∈ ws := (List.mem_cons.mp h).resolve_left fun z => e z.symm
      obtain ⟨j, h3, h4, h5⟩ := one_at h2
      refine ⟨j + 1, by simpa using h3, by simpa using h4, fun m hm => ?_⟩
      cases m with
      | zero => simp [e]
      | succ m => simpa using h5 m (by omega)
theorem oneOf {c : Str} {ws : List Str} (nd : ws.Nodup) (hc : c ∈ ws) (hl : ws.length ≤ 64) : OneOf (ws.map fun d => decide (d = c)) ws c :=
  ⟨by rw [one_sum nd, if_pos hc], one_at hc, by rw [List.length_map]; exact hl, hl⟩
/-- the text of _law_word: what it takes for the class c alone -/
def WordT (sW : Stmt) (N : List Str) (ws : List Str) : Prop := ∃ k, k < N.length ∧ ∀ (X : Cx) (a D : Addr) (c : Str), X.N = N → X.env.scope = defScope sW → HotE X a D → c ∈ ws → PySem.W.kitOne X.K (.ref D) (.type "ValueError") = some true →
  (∀ x ∈ (["isinstance", "sum", "ValueError", "int"] : List Str), X.mg x = none) → (∀ d ∈ ws, X.mg d = some (.ref (He.ga X.K d)) ∧ PySem.W.kitOne X.K (.ref D) (.ref (He.ga X.K d)) = some (decide (d = c))) → PSs X (defBody sW) (tWord k a c)
/-- the text of _law_told -/
def ToldT (sT : Stmt) : Prop := ∃ (p1 p2 p3 p4 p5 p6 p7 p8 p9 p10 : Pos), defBody sT = [.Try [.Return (some (.Call (.Name "deed" p1) [] [] p2)) p3] [.ExceptHandler (some (.Name "TryError" p4)) (some "e") [.Return (some (.Call (.Name "_law_word" p5) [.Name "e" p6] [] p7)) p8] p9] [] [] p10]
def dTold (sT : Stmt) : DX := ⟨"_law_told", ("_law_told", none), sT, ["deed"], ["deed", "e"], false⟩
def dWord (sW : Stmt) (N : List Str) : DX := ⟨"_law_word", ("_law_word", none), sW, ["e"], N, false⟩
structure ToldD (sT sW : Stmt) (N ws : List Str) : Prop where
  tT : ToldT sT
  tW : WordT sW N ws
  scT : fnScopeB ["deed", "e"] ["deed"] (defScope sT) = true
  scW : fnScopeB N ["e"] (defScope sW) = true
  bT : BindOk ["deed"] "_law_told" "_law_told" sT
  bW : BindOk ["e"] "_law_word" "_law_word" sW
  l1 : (defScope sT).names.lookup ("deed" : Str) = some .local
  l2 : (defScope sT).names.lookup ("e" : Str) = some .local
  l3 : (defScope sT).names.lookup ("TryError" : Str) = some .globalImplicit
  l4 : (defScope sT).names.lookup ("_law_word" : Str) = some .globalImplicit
section
variable {P : Program} {w : World} {K : PySem.W.Frag} {mg : Str → Option Value} {base h : Heap} {Pg : Prog} {gl : List (Str × Gk)} {al : List (Nat × Nat)} {ds : List DX} {cs : List Str} {fa : List He.Fa} {sT sW : Stmt} {N ws : List Str}
theorem toldF_of (X : K.In h) (G : h.Ns mainGlobals mg) (T : ToldD sT sW N ws) (cc : He.SaysD fa ((ds ++ [dTold sT, dWord sW N]).map DX.dd) K) (hfa : ∀ f ∈ faOf gl Pg.cls, f ∈ fa) (hw : ∀ d ∈ ws, He.Fa.glo d ∈ fa) (hcs : ∀ c, Pg.told.contains c = true → cs.contains c = true) (hb : wordB K ws Pg.told = true) :
    ToldF K mg (caOf K cs) Pg.told := by
  have fact : ∀ f ∈ faOf gl Pg.cls, f.ok K = true := fun f hf => cc.facts (hfa f hf)
  obtain ⟨fdT, FT⟩ : ∃ fd, FunD K "_law_told" "_law_told" (defArgs sT) (defBody sT) (defScope sT) [] [] (He.ga K "_law_told") fd := cc.defs (d := (dTold sT).dd) (List.mem_map.mpr ⟨_, List.mem_append_right _ List.mem_cons_self, rfl⟩)
  obtain ⟨fdW, FW⟩ : ∃ fd, FunD K "_law_word" "_law_word" (defArgs sW) (defBody sW) (defScope sW) [] [] (He.ga K "_law_word") fd := cc.defs (d := (dWord sW N).dd) (List.mem_map.mpr ⟨_, List.mem_append_right _ (List.mem_cons_of_mem _ List.mem_cons_self), rfl⟩)
  have gT : mg "_law_told" = some (.ref (He.ga K "_law_told")) := He.glo_ok X G (fact _ (by unfold faOf; exact List.mem_append_right _ (by simp)))
  have gW : mg "_law_word" = some (.ref (He.ga K "_law_word")) := He.glo_ok X G (fact _ (by unfold faOf; exact List.mem_append_right _ (by simp)))
  have gE : mg "TryError" = some (.ref (He.ga K "TryError")) := He.glo_ok X G (fact _ (by unfold faOf; exact List.mem_append_right _ (by simp)))
  have nV : mg "ValueError" = none := He.free_ok X G (fact _ (by unfold faOf; exact List.mem_append_right _ (by simp)))
  have nB : ∀ x ∈ blts, mg x = none := fun x hx => He.free_ok X G (fact _ (by unfold faOf; exact List.mem_append_left _ (List.mem_append_left _ (List.mem_append_left _ (List.mem_map.mpr ⟨x, hx, rfl⟩)))))
  have none4 : ∀ x ∈ (["isinstance", "sum", "ValueError", "int"] : List Str), mg x = none := fun x hx => by
    simp only [List.mem_cons, List.not_mem_nil, or_false] at hx
    rcases hx with e | e | e | e
    · rw [e]; exact nB _ (by decide +kernel)
    · rw [e]; exact nB _ (by decide +kernel)
    · rw [e]; exact nV
    · rw [e]; exact nB _ (by decide +kernel)
  have info : ∀ c, Pg.told.contains c = true → c ∈ ws ∧ (∀ d ∈ ws, PySem.W.kitOne K (.ref (He.ga K c)) (.ref (He.ga K d)) = some (decide (d = c))) ∧ PySem.W.kitOne K (.ref (He.ga K c)) (.type "ValueError") = some true ∧ PySem.W.exmOne K (.ref (He.ga K c)) (.ref (He.ga K "TryError")) = some true ∧ excCB K (He.ga K c) = true := fun c hc => by
    have := List.all_eq_true.mp hb c (by simpa using hc)
    simp only [Bool.and_eq_true, decide_eq_true_eq, List.all_eq_true] at this
    exact ⟨by simpa using this.1.1.1.1, this.1.1.1.2, this.1.1.2, this.1.2, this.2⟩
  have caEq : ∀ c C, Pg.told.contains c = true → caOf K cs c = some C → C = He.ga K c := fun c C h1 h2 => by
    have e : caOf K cs c = some (He.ga K c) := if_pos (hcs c h1)
    rw [e] at h2
    exact (Option.some.inj h2).symm
  have bindsT := FT.bindsN (ps := ["deed"]) T.bT
  have bindsW := FW.bindsN (ps := ["e"]) T.bW
  obtain ⟨oc, od, dV, kV, doc, pm, an, cdv, ct, osl, efd, lk, hcd, hD, hK⟩ := FT.ex
  obtain ⟨oc', od', dV', kV', doc', pm', an', cdv', ct', osl', efd', lk', hcd', hD', hK'⟩ := FW.ex
  obtain ⟨p1, p2, p3, p4, p5, p6, p7, p8, p9, p10, eb⟩ := T.tT
  obtain ⟨k, hk, tw⟩ := T.tW
  have W : WordF K mg (caOf K cs) Pg.told (He.ga K "_law_word") := by
    refine ⟨⟨"_law_word", "_law_word", defArgs sW, defBody sW, defScope sW, dV', kV', doc', pm', cdv', ct', oc', an', od', osl', N, k, by rw [← efd']; exact lk', hcd', fnScope_of T.scW, by rw [← efd']; exact bindsW, hk, ?_⟩, FW.kp⟩
    intro Y a C c hK hm hN hs ht hC hE
    have eC := caEq c C ht hC
    subst hK hm eC
    obtain ⟨i1, i2, i3, i4, i5⟩ := info c ht
    exact tw Y a _ c hN hs hE i1 i3 none4 fun d hd => ⟨He.glo_ok X G (cc.facts (hw d hd)), i2 d hd⟩
  refine ⟨He.ga K "_law_told", He.ga K "_law_word", He.ga K "TryError", defArgs sT, defScope sT, dV, kV, doc, pm, cdv, ct, oc, an, od, osl, p1, p2, p3, p4, p5, p6, p7, p8, p9, p10, defBody sT, eb, gT, FT.kp, by rw [← efd]; exact lk, hcd, by rw [← efd]; exact bindsT, fnScope_of T.scT, T.l1, T.l2, T.l3, T.l4, gE, gW, W, fun c C h1 h2 => ?_⟩
  rw [caEq c C h1 h2]
  obtain ⟨i1, i2, i3, i4, i5⟩ := info c h1
  exact ⟨i4, excC_of i5⟩
end
end MI

namespace MI
open PySem PySem.Spec PyProof.Rows L2
/-- a law's data -/
structure LawX where
  Pg : Prog
  gl : List (Str × Gk)
  al : List (Nat × Nat)
  ds : List DX
  cs : List Str
  sT : Stmt
  sW : Stmt
  N : List Str
  ws : List Str
  law : DX
def LawX.fa (L : LawX) : List He.Fa := faOf L.gl L.Pg.cls ++ (L.ws.map .glo ++ [.glo "law"])
def LawX.fn (L : LawX) : List He.DefD := (L.ds ++ [dTold L.sT, dWord L.sW L.N]).map DX.dd
def LawX.tf (L : LawX) : List He.Defn := (lamsOf L.ds).map (·.at_)
def LawX.ex (L : LawX) (K : PySem.W.Frag) : Bool := valsB K L.gl && apartB K L.ds && wordB K L.ws L.Pg.told
def LawX.hook (L : LawX) : PySem.W.Hook := He.hookX 7 L.fa L.fn [] L.tf L.ex
def LawX.ob (L : LawX) (s : PySem.W.SharedT) : He.AlX := He.obsX 7 L.fa L.fn [] L.tf L.ex (HandSHeadRun.getT s)
theorem LawX.ob_eq (L : LawX) (s : PySem.W.SharedT) : L.ob s = L.hook.obs s.abs := He.obsX_eq (HandSHeadRun.getT_eq s)
/-- what is to be shown of the texts alone -/
structure LawX.Ok (L : LawX) : Prop where
  B : Both L.gl L.al L.ds L.Pg.fns
  gl : glB L.ds L.gl L.Pg.cls L.cs = true
  T : ToldD L.sT L.sW L.N L.ws
  cs : L.Pg.told.all (fun c => L.cs.contains c) = true
  law : L.ds.find? (fun d => d.key == ("law" : Str)) = some L.law
  at_ : L.law.at_ = (("law" : Str), none)
  ps : L.law.ps = ([("script" : Str)] : List Str)
theorem Both.keys {gl : List (Str × Gk)} {al : List (Nat × Nat)} {ds : List DX} {fs : List (Str × Fn)} (b : Both gl al ds fs) {key : Str} {d : DX} (h : ds.find? (fun d => d.key == key) = some d) : ∃ fn, fs.lookup key = some fn := by
  induction b with
  | nil => cases h
  | @cons d' f ds fs ok b ih =>
    rw [List.find?_cons] at h
    rw [List.lookup_cons]
    by_cases e : key = d'.key
    · rw [show (key == d'.key) = true from by simp [e]]
      exact ⟨f, rfl⟩
    · rw [show (key == d'.key) = false from by simpa using e]
      rw [show (d'.key == key) = false from by simpa using fun z => e z.symm] at h
      exact ih h
theorem law_at {l : PySem.W.OpenLaw} {w : World} {K : PySem.W.Frag} {mg : Str → Option Value} {h : Heap} {f : Addr} {kk : Nat} (L : LawX) (O : L.Ok) (ok : ∀ ns : List Int, ns.length ≤ 63 → ∃ h', callF L.Pg kk "law" [.fro (ns.map A.int)] [] = .ok (.bl true) h')
    (X : K.In h) (G : h.Ns mainGlobals mg) (c : He.SaysX L.fa L.fn [] L.tf L.ex w h K) (hf : mg "law" = some (.ref f)) : LamX.LawAtS l w K (L2N.CX l.prog w) (4 * kk) 63 "script" mg f h := by
  have m := c.more
  unfold LawX.ex at m
  simp only [Bool.and_eq_true] at m
  obtain ⟨⟨m1, m2⟩, m3⟩ := m
  have sd : He.SaysD L.fa L.fn K := c.t.d
  have inFa : ∀ x ∈ faOf L.gl L.Pg.cls, x ∈ L.fa := fun x hx => List.mem_append_left _ hx
  have TF : ToldF K mg (caOf K L.cs) L.Pg.told := toldF_of (gl := L.gl) (Pg := L.Pg) X G O.T sd inFa (fun d hd => List.mem_append_right _ (List.mem_append_left _ (List.mem_map.mpr ⟨d, hd, rfl⟩))) (fun c hc => List.all_eq_true.mp O.cs c (by simpa using hc)) m3
  have gLaw : mg "law" = some (.ref (He.ga K "law")) := He.glo_ok X G (sd.facts (List.mem_append_right _ (List.mem_append_right _ List.mem_cons_self)))
  have ef : f = He.ga K "law" := by
    rw [gLaw] at hf
    cases hf
    rfl
  obtain ⟨fn, hfn⟩ := O.B.keys O.law
  obtain ⟨d', md, hd, dok⟩ := O.B.find hfn
  rw [O.law] at hd
  cases hd
  obtain ⟨fd, F⟩ : ∃ fd, FunD K L.law.name L.law.qual (defArgs L.law.st) (defBody L.law.st) (defScope L.law.st) [] [] (He.fAd K L.law.at_) fd := sd.defs (d := L.law.dd) (List.mem_map.mpr ⟨_, List.mem_append_left _ md, rfl⟩)
  have efd : fdAt K (He.fAd K L.law.at_) = fd := by
    obtain ⟨oc, od, dV, kV, doc, pm, an, cdv, ct, osl, _, lk, _⟩ := F.ex
    unfold fdAt
    rw [lk]
  have mtf : ∀ p ∈ (lamsOf L.ds).map (fun d => He.cT K d.at_), ∃ d ∈ L.tf, He.cT K d = p := fun p hp => by
    obtain ⟨d, h1, h2⟩ := List.mem_map.mp hp
    exact ⟨d.at_, List.mem_map.mpr ⟨d, h1, rfl⟩, h2⟩
  refine ⟨fd, (lamsOf L.ds).map (fun d => He.cT K d.at_), spM K (tabsOf K L.ds) (caOf K L.cs) 1 (callF L.Pg kk "law"), fun p hp => ?_, fun p hp => ?_, fun p hp => ?_, fun s u => ?_, fun H a ns hl _ hc hs => ?_, fun base KB GB TB => ?_⟩
  · obtain ⟨d, h1, rfl⟩ := mtf p hp
    exact c.empty d h1
  · obtain ⟨d, h1, rfl⟩ := mtf p hp
    exact c.out d h1
  · obtain ⟨d, h1, rfl⟩ := mtf p hp
    exact PySem.W.codeHd_of_K X (c.hd d h1)
  · have b := dok.b
    rw [O.ps] at b
    exact F.bindsA (ps := ["script"]) b s [u] rfl
  · exact law_sp (fun p hp => by
      obtain ⟨d, h1, rfl⟩ := List.mem_map.mp hp
      exact ⟨He.cT K d.at_, List.mem_map.mpr ⟨d, h1, rfl⟩, rfl⟩) ok H a ns hl hc hs
  · have S : Stat l.prog w K mg base (tabsOf K L.ds) (caOf K L.cs) L.Pg L.gl L.al (tbOf K L.ds) := stat_of X G O.B O.gl (fun key d h => O.B.keys h) sd inFa m1 m2 (fun d hd => TB _ (List.mem_map.mpr ⟨d, hd, rfl⟩)) TF
    have A := fn_all S kk "law" fn (L.law.fr K) hfn (by unfold tbOf; rw [O.law]; rfl)
    have e1 : (L.law.fr K).f = f := by
      rw [ef]
      show He.fAd K L.law.at_ = _
      rw [O.at_]
      rfl
    have e2 : (L.law.fr K).fd = fd := efd
    have e3 : (L.law.fr K).ps = ([("script" : Str)] : List Str) := O.ps
    rw [e1, e2, e3] at A
    exact A
/-- no wish, no error -/
theorem cx_no {P : Program} {w : World} {outer : List Env} {H : Hp} {s : Shared} {e : Value} {s' : Shared} (h : L2N.CX P w outer H s (fun _ _ _ => False) e s') : False := by
  obtain ⟨_, _, _, _, _, _, _, _, _, _, _, _, z⟩ := h
  exact z
end MI

namespace Lk20
open PySem L2 MI
def top (i : Nat) : Stmt := PySem.Challenge.pw_tryroad_k20_whole_callers.main.body.getD i (.Pass ⟨0, 0, 0, 0⟩)
def glp0 : List (Str × Gk) := [("BadRule", .exc "BadRule"), ("BadName", .exc "BadName"), ("BadText", .exc "BadText"), ("BadTime", .exc "BadTime"), ("BadCall", .exc "BadCall"), ("Full", .exc "Full"), ("SMALL", .val (.str "abcdefghijklmnopqrstuvwxyz")), ("MOST_NAME", .val (.int 4)), ("MOST_TEXT", .val (.int 20)), ("BARRED", .val (.int 37)), ("is_name", .fn "is_name"), ("need_name", .fn "need_name"), ("is_text", .fn "is_text"), ("need_text", .fn "need_text"), ("BOUNDS", .val (.tup [(.tup [(.int 1), (.int 9)]), (.tup [(.int 1), (.int 3)]), (.tup [(.int 1), (.int 60)]), (.tup [(.int 1), (.int 5)]), (.tup [(.int 1), (.int 20)]), (.tup [(.int 1), (.int 3)])])), ("is_count", .fn "is_count"), ("need_rule", .fn "need_rule"), ("wait_of", .fn "wait_of"), ("MOST_CALLS", .val (.int 30)), ("MOST_ADDRESSES", .val (.int 5)), ("MOST_TICKS", .val (.int 100)), ("WORDS", .val (.tup [(.str "good"), (.str "later"), (.str "never")])), ("Call", .cls "Call"), ("Caller", .cls "Caller"), ("_law_cell", .fn "_law_cell"), ("_law_drawn", .fn "_law_drawn"), ("_law_rule", .fn "_law_rule"), ("_law_wait", .fn "_law_wait"), ("_law_any_name", .fn "_law_any_name"), ("_law_any_text", .fn "_law_any_text")]
def glp1 : List (Str × Gk) := [("_law_own", .fn "_law_own"), ("_law_real", .fn "_law_real"), ("_law_may", .fn "_law_may"), ("_law_due", .fn "_law_due"), ("_law_fail", .fn "_law_fail"), ("_law_send", .fn "_law_send"), ("_law_try", .fn "_law_try"), ("_law_tick", .fn "_law_tick"), ("_law_hand", .fn "_law_hand"), ("_law_lead", .fn "_law_lead"), ("_law_deed", .fn "_law_deed"), ("_law_own_does", .fn "_law_own_does"), ("_law_does", .fn "_law_does"), ("_law_like", .fn "_law_like"), ("law", .fn "law")]
def gl : List (Str × Gk) := glp0 ++ glp1
def al : List (Nat × Nat) := [(69, 20), (92, 16), (149, 16), (248, 12), (264, 58), (264, 69)]
def d0 : DX := ⟨"is_name", ("is_name", none), top 13, ["thing"], ["thing", "sign", ".0"], false⟩
def d1 : DX := ⟨"need_name", ("need_name", none), top 14, ["thing"], ["thing"], false⟩
def d2 : DX := ⟨"is_text", ("is_text", none), top 15, ["thing"], ["thing", "good", "sign", ".0"], false⟩
def d3 : DX := ⟨"need_text", ("need_text", none), top 16, ["thing"], ["thing"], false⟩
def d4 : DX := ⟨"is_count", ("is_count", none), top 19, ["thing", "low", "high"], ["thing", "low", "high"], false⟩
def d5 : DX := ⟨"need_rule", ("need_rule", none), top 20, ["rule"], ["rule", "good", "one", "low", "high", ".0"], false⟩
def d6 : DX := ⟨"wait_of", ("wait_of", none), top 21, ["rule", "fails"], ["rule", "fails", "found", "turn"], false⟩
def d7 : DX := ⟨"Call.__init__", ("Call", some "__init__"), inClass (top 27) 0, ["self", "key", "goal", "text", "time"], ["self", "key", "goal", "text", "time"], false⟩
def d8 : DX := ⟨"Caller.__init__", ("Caller", some "__init__"), inClass (top 28) 0, ["self", "rule"], ["self", "rule"], false⟩
def d9 : DX := ⟨"Caller.now", ("Caller", some "now"), inClass (top 28) 1, ["self"], ["self"], false⟩
def d10 : DX := ⟨"Caller.say", ("Caller", some "say"), inClass (top 28) 2, ["self", "number", "word"], ["self", "number", "word"], false⟩
def d11 : DX := ⟨"Caller.log", ("Caller", some "log"), inClass (top 28) 3, ["self"], ["self"], false⟩
def d12 : DX := ⟨"Caller.need_address", ("Caller", some "need_address"), inClass (top 28) 4, ["self", "name"], ["self", "name"], false⟩
def d13 : DX := ⟨"Caller.add_address", ("Caller", some "add_address"), inClass (top 28) 5, ["self", "name"], ["self", "name"], false⟩
def d14 : DX := ⟨"Caller.road", ("Caller", some "road"), inClass (top 28) 6, ["self", "name"], ["self", "name", "found"], false⟩
def d15 : DX := ⟨"Caller.end_of", ("Caller", some "end_of"), inClass (top 28) 7, ["self", "name"], ["self", "name"], false⟩
def d16 : DX := ⟨"Caller.lead", ("Caller", some "lead"), inClass (top 28) 8, ["self", "name", "other"], ["self", "name", "other"], false⟩
def d17 : DX := ⟨"Caller.call", ("Caller", some "call"), inClass (top 28) 9, ["self", "number"], ["self", "number"], false⟩
def d18 : DX := ⟨"Caller.numbers", ("Caller", some "numbers"), inClass (top 28) 10, ["self"], ["self"], false⟩
def d19 : DX := ⟨"Caller.send", ("Caller", some "send"), inClass (top 28) 11, ["self", "key", "goal", "text"], ["self", "key", "goal", "text", "number"], false⟩
def d20 : DX := ⟨"Caller.state", ("Caller", some "state"), inClass (top 28) 12, ["self", "number"], ["self", "number"], false⟩
def d21 : DX := ⟨"Caller.tries", ("Caller", some "tries"), inClass (top 28) 13, ["self", "number"], ["self", "number"], false⟩
def d22 : DX := ⟨"Caller.time_of", ("Caller", some "time_of"), inClass (top 28) 14, ["self", "number"], ["self", "number", "one"], false⟩
def d23 : DX := ⟨"Caller.is_first", ("Caller", some "is_first"), inClass (top 28) 15, ["self", "number"], ["self", "number", "key", "ahead", "one", ".0"], false⟩
def d24 : DX := ⟨"Caller.busy", ("Caller", some "busy"), inClass (top 28) 16, ["self", "goal"], ["self", "goal", "some", "number", "one", ".0"], false⟩
def d25 : DX := ⟨"Caller.due", ("Caller", some "due"), inClass (top 28) 17, ["self"], ["self", "found", "number", "one"], false⟩
def d26 : DX := ⟨"Caller.begin", ("Caller", some "begin"), inClass (top 28) 18, ["self", "number"], ["self", "number", "one"], false⟩
def d27 : DX := ⟨"Caller.attempt", ("Caller", some "attempt"), inClass (top 28) 19, ["self"], ["self", "some"], false⟩
def d28 : DX := ⟨"Caller.fail", ("Caller", some "fail"), inClass (top 28) 20, ["self", "number"], ["self", "number", "one"], false⟩
def d29 : DX := ⟨"Caller.answer", ("Caller", some "answer"), inClass (top 28) 21, ["self", "number", "word"], ["self", "number", "word", "one"], false⟩
def d30 : DX := ⟨"Caller.tick", ("Caller", some "tick"), inClass (top 28) 22, ["self", "many"], ["self", "many", "turn", "number", "one"], false⟩
def d31 : DX := ⟨"Caller.go_on", ("Caller", some "go_on"), inClass (top 28) 23, ["self", "number"], ["self", "number", "one"], false⟩
def d32 : DX := ⟨"Caller.drop", ("Caller", some "drop"), inClass (top 28) 24, ["self", "number"], ["self", "number", "one"], false⟩
def d33 : DX := ⟨"Caller.change", ("Caller", some "change"), inClass (top 28) 25, ["self", "number", "goal"], ["self", "number", "goal", "one"], false⟩
def d34 : DX := ⟨"_law_cell", ("_law_cell", none), top 30, ["script", "k"], ["script", "k"], false⟩
def d35 : DX := ⟨"_law_drawn", ("_law_drawn", none), top 31, ["cell", "k"], ["cell", "k", "more"], false⟩
def d36 : DX := ⟨"_law_rule", ("_law_rule", none), top 34, ["more"], ["more", "bounds", "found", "j", "here", "low", "high", "one", ".0"], false⟩
def d37 : DX := ⟨"_law_wait", ("_law_wait", none), top 35, ["rule", "fails"], ["rule", "fails", "found", "turn"], false⟩
def d38 : DX := ⟨"_law_any_name", ("_law_any_name", none), top 36, ["more", "most"], ["more", "most", "j", ".0"], false⟩
def d39 : DX := ⟨"_law_any_text", ("_law_any_text", none), top 37, ["more", "most"], ["more", "most", "signs", "j", ".0"], false⟩
def d40 : DX := ⟨"_law_own", ("_law_own", none), top 38, ["rule"], ["rule"], false⟩
def d41 : DX := ⟨"_law_real", ("_law_real", none), top 39, ["own", "name"], ["own", "name"], false⟩
def d42 : DX := ⟨"_law_may", ("_law_may", none), top 40, ["own", "number"], ["own", "number", "one", "ahead", "place", "far", "word", ".0"], false⟩
def d43 : DX := ⟨"_law_due", ("_law_due", none), top 41, ["own"], ["own", "number", ".0"], false⟩
def d44 : DX := ⟨"_law_fail", ("_law_fail", none), top 42, ["own", "number"], ["own", "number", "one"], false⟩
def d45 : DX := ⟨"_law_send", ("_law_send", none), top 43, ["own", "key", "goal", "text"], ["own", "key", "goal", "text", "one"], false⟩
def d46 : DX := ⟨"_law_try", ("_law_try", none), top 44, ["own"], ["own", "some", "one"], false⟩
def d47 : DX := ⟨"_law_tick", ("_law_tick", none), top 45, ["own", "many"], ["own", "many", "turn", "number", "one"], false⟩
def d48 : DX := ⟨"_law_hand", ("_law_hand", none), top 46, ["own", "word", "number", "goal"], ["own", "word", "number", "goal", "bad", "one", "needed"], false⟩
def d49 : DX := ⟨"_law_lead", ("_law_lead", none), top 47, ["own", "name", "other"], ["own", "name", "other", "walk"], false⟩
def d50 : DX := ⟨"_law_deed", ("_law_deed", none), top 48, ["more", "own"], ["more", "own", "here", "names", "number", "under", "goal", "text", "way", "key", "at", "one", ".0"], false⟩
def d51 : DX := ⟨"_law_own_does", ("_law_own_does", none), top 49, ["own", "deed"], ["own", "deed", "word"], false⟩
def d52 : DX := ⟨"_law_does", ("_law_does", none), top 50, ["caller", "deed"], ["caller", "deed", "word"], true⟩
def d53 : DX := ⟨"_law_like", ("_law_like", none), top 51, ["caller", "own"], ["caller", "own", "at", "one", "due", "name", ".0"], false⟩
def d54 : DX := ⟨"law", ("law", none), top 52, ["script"], ["script", "k", "more", "rule", "name", "j", "caller", "own", "deed"], false⟩
def dsp0 : List DX := [d0, d1, d2, d3, d4, d5, d6, d7, d8, d9, d10, d11, d12, d13, d14, d15, d16, d17, d18, d19, d20, d21, d22, d23, d24, d25, d26, d27, d28, d29]
def dsp1 : List DX := [d30, d31, d32, d33, d34, d35, d36, d37, d38, d39, d40, d41, d42, d43, d44, d45, d46, d47, d48, d49, d50, d51, d52, d53, d54]
def ds : List DX := dsp0 ++ dsp1
end Lk20

namespace MT
open PySem MI
section
variable {α β : Type} {Pg : Prog} {cf : Str → List A → AH → R A} {s : ASt} {h : AH}
@[simp] theorem bind_ok (a : α) (h : AH) (k : α → AH → R β) : (R.ok a h).bind k = k a h := rfl
@[simp] theorem bind_exc (c : Str) (h : AH) (k : α → AH → R β) : (R.exc c h : R α).bind k = .exc c h := rfl
@[simp] theorem bind_bad (k : α → AH → R β) : (R.bad : R α).bind k = .bad := rfl
@[simp] theorem of_some (a : α) (h : AH) : R.of (some a) h = .ok a h := rfl
@[simp] theorem of_none (h : AH) : (R.of none h : R α) = .bad := rfl
@[simp] theorem toF_ok (s : ASt) (a : α) (h : AH) (k : α → AH → F) : (R.ok a h).toF s k = k a h := rfl
@[simp] theorem toF_exc (s : ASt) (c : Str) (h : AH) (k : α → AH → F) : (R.exc c h : R α).toF s k = .exc c s h := rfl
@[simp] theorem toF_bad (s : ASt) (k : α → AH → F) : (R.bad : R α).toF s k = .bad := rfl
@[simp] theorem seq_nx (s : ASt) (h : AH) (k : ASt → AH → F) : (F.nx s h).seq k = k s h := rfl
@[simp] theorem seq_rt (v : A) (h : AH) (k : ASt → AH → F) : (F.rt v h).seq k = .rt v h := rfl
@[simp] theorem seq_bk (s : ASt) (h : AH) (k : ASt → AH → F) : (F.bk s h).seq k = .bk s h := rfl
@[simp] theorem seq_ct (s : ASt) (h : AH) (k : ASt → AH → F) : (F.ct s h).seq k = .ct s h := rfl
@[simp] theorem seq_exc (c : Str) (s : ASt) (h : AH) (k : ASt → AH → F) : (F.exc c s h).seq k = .exc c s h := rfl
@[simp] theorem seq_bad (k : ASt → AH → F) : F.bad.seq k = .bad := rfl
@[simp] theorem toR_nx (s : ASt) (h : AH) : (F.nx s h).toR = .ok .non h := rfl
@[simp] theorem toR_rt (v : A) (h : AH) : (F.rt v h).toR = .ok v h := rfl
@[simp] theorem toR_exc (c : Str) (s : ASt) (h : AH) : (F.exc c s h).toR = .exc c h := rfl
/-- a comprehension's turn, a loop's turn -/
def compB (Pg : Prog) (cf : Str → List A → AH → R A) (el : E) (tg : Tg) (ifs : Es) (own : List Nat) (s : ASt) : A → AH → R (Option A) := fun x h2 => (evG Pg cf tg x (wipeA s own) h2).bind fun s2 h3 => (evEs Pg cf ifs s2 h3).bind fun bs h4 => match boolsA bs with | some bs => if bs.all id then (evE Pg cf el s2 h4).bind fun y h5 => .ok (some y) h5 else .ok none h4 | none => .bad
def forB (Pg : Prog) (cf : Str → List A → AH → R A) (t : Tg) (b : Ss) : A → ASt → AH → F := fun x s2 h2 => (evG Pg cf t x s2 h2).toF s2 fun s3 h3 => evSs Pg cf b s3 h3
@[simp] theorem compB_eq (el : E) (tg : Tg) (ifs : Es) (own : List Nat) (x : A) : compB Pg cf el tg ifs own s x h = (evG Pg cf tg x (wipeA s own) h).bind fun s2 h3 => (evEs Pg cf ifs s2 h3).bind fun bs h4 => match boolsA bs with | some bs => if bs.all id then (evE Pg cf el s2 h4).bind fun y h5 => .ok (some y) h5 else .ok none h4 | none => .bad := rfl
@[simp] theorem forB_eq (t : Tg) (b : Ss) (x : A) : forB Pg cf t b x s h = (evG Pg cf t x s h).toF s fun s3 h3 => evSs Pg cf b s3 h3 := rfl
/-- a field, a method, a store, by the object's class -/
def clsF (Pg : Prog) (c f : Str) (fs : List (Str × A)) : Option A := match Pg.cls.lookup c with | some ci => if ci.attrs.contains f then fs.lookup f else none | none => none
def clsM (Pg : Prog) (c m : Str) (fs : List (Str × A)) : Option Str := match Pg.cls.lookup c with | some ci => (match ci.meths.lookup m, fs.lookup m with | some g, none => some g | _, _ => none) | none => none
def clsP (Pg : Prog) (c f : Str) (v : A) (fs : List (Str × A)) : Option (List (Str × A)) := match Pg.cls.lookup c with | some ci => if ci.attrs.contains f && decide (fs.length < 500) then some (putFA f v fs) else none | none => none
def clsI (Pg : Prog) (c : Str) : Option Str := match Pg.cls.lookup c with | some ci => ci.init | none => none
def fldA (Pg : Prog) (h : AH) (x : A) (f : Str) : Option A := match x with | .loc l => (match h[l]? with | some (.ins c fs) => clsF Pg c f fs | _ => none) | _ => none
def methA (Pg : Prog) (h : AH) (x : A) (m : Str) : Option Str := match x with | .loc l => (match h[l]? with | some (.ins c fs) => clsM Pg c m fs | _ => none) | _ => none
def putF (Pg : Prog) (h : AH) (x : A) (f : Str) (v : A) : Option AH := match x with | .loc l => (match h[l]? with | some (.ins c fs) => (clsP Pg c f v fs).map fun fs => h.set l (.ins c fs) | _ => none) | _ => none
def putS (h : AH) (x y v : A) : Option AH := match x with | .loc l => (match h[l]? with | some (.dic false kvs) => (match keyA y with | some k => if small kvs.length then some (h.set l (.dic false (putKA k v kvs))) else none | none => none) | _ => none) | _ => none
@[simp] theorem fldA_loc (l : Nat) (f : Str) : fldA Pg h (.loc l) f = match h[l]? with | some (.ins c fs) => clsF Pg c f fs | _ => none := rfl
@[simp] theorem methA_loc (l : Nat) (f : Str) : methA Pg h (.loc l) f = match h[l]? with | some (.ins c fs) => clsM Pg c f fs | _ => none := rfl
@[simp] theorem putF_loc (l : Nat) (f : Str) (v : A) : putF Pg h (.loc l) f v = match h[l]? with | some (.ins c fs) => (clsP Pg c f v fs).map fun fs => h.set l (.ins c fs) | _ => none := rfl
@[simp] theorem putS_loc (l : Nat) (y v : A) : putS h (.loc l) y v = match h[l]? with | some (.dic false kvs) => (match keyA y with | some k => if small kvs.length then some (h.set l (.dic false (putKA k v kvs))) else none | none => none) | _ => none := rfl
@[simp] theorem evE_fld (o : E) (f : Str) : evE Pg cf (.fld o f) s h = (evE Pg cf o s h).bind fun x h1 => R.of (fldA Pg h1 x f) h1 := by
  show (evE Pg cf o s h).bind _ = _
  congr 1
  funext x h1
  cases x with
  | loc l =>
    simp only [fldA, clsF]
    cases h1[l]? with
    | none => rfl
    | some ob =>
      cases ob with
      | ins c fs =>
        dsimp only
        cases Pg.cls.lookup c with
        | none => rfl
        | some ci => dsimp only; split <;> rfl
      | _ => rfl
  | _ => rfl
@[simp] theorem evE_meth (o : E) (m : Str) (as : Es) : evE Pg cf (.meth o m as) s h = (evE Pg cf o s h).bind fun x h1 => match methA Pg h1 x m with | some g => (evEs Pg cf as s h1).bind fun vs h2 => cf g (x :: vs) h2 | none => .bad := by
  show (evE Pg cf o s h).bind _ = _
  congr 1
  funext x h1
  cases x with
  | loc l =>
    simp only [methA, clsM]
    cases h1[l]? with
    | none => rfl
    | some ob =>
      cases ob with
      | ins c fs =>
        dsimp only
        cases Pg.cls.lookup c with
        | none => rfl
        | some ci =>
          dsimp only
          cases ci.meths.lookup m with
          | none => rfl
          | some g => cases fs.lookup m <;> rfl
      | _ => rfl
  | _ => rfl
@[simp] theorem evG_fl (o : E) (f : Str) (v : A) : evG Pg cf (.fl o f) v s h = (evE Pg cf o s h).bind fun x h1 => match putF Pg h1 x f v with | some h2 => .ok s h2 | none => .bad := by
  show (evE Pg cf o s h).bind _ = _
  congr 1
  funext x h1
  cases x with
  | loc l =>
    simp only [putF, clsP]
    cases h1[l]? with
    | none => rfl
    | some ob =>
      cases ob with
      | ins c fs =>
        dsimp only
        cases Pg.cls.lookup c with
        | none => rfl
        | some ci => dsimp only; split <;> rfl
      | _ => rfl
  | _ => rfl
@[simp] theorem evG_sb (o i : E) (v : A) : evG Pg cf (.sb o i) v s h = (evE Pg cf o s h).bind fun x h1 => (evE Pg cf i s h1).bind fun y h2 => match putS h2 x y v with | some h3 => .ok s h3 | none => .bad := by
  show (evE Pg cf o s h).bind _ = _
  congr 1
  funext x h1
  congr 1
  funext y h2
  cases x with
  | loc l =>
    simp only [putS]
    cases h2[l]? with
    | none => rfl
    | some ob =>
      cases ob with
      | dic b kvs =>
        cases b with
        | true => rfl
        | false =>
          dsimp only
          cases keyA y with
          | none => rfl
          | some k => dsimp only; split <;> rfl
      | _ => rfl
  | _ => rfl
@[simp] theorem lkOk_none : lkOk h none = true := rfl
@[simp] theorem unR_none (r : R α) : r.un none = r := by cases r <;> rfl
@[simp] theorem unF_none (r : F) : r.un none = r := by cases r <;> rfl
@[simp] theorem lockH_tup (xs : List A) : lockH (.tup xs) h = h := rfl
@[simp] theorem lockH_lst (xs : List A) : lockH (.lst xs) h = h := rfl
@[simp] theorem lockH_str (z : Str) : lockH (.str z) h = h := rfl
@[simp] theorem lockH_loc (l : Nat) : lockH (.loc l) h = match h[l]? with | some (.dic false kvs) => h.set l (.dic true kvs) | _ => h := rfl
@[simp] theorem evE_var (i : Nat) : evE Pg cf (.var i) s h = match s[i]? with | some (some v) => .ok v h | _ => .bad := rfl
@[simp] theorem evE_con (a : A) : evE Pg cf (.con a) s h = .ok a h := rfl
@[simp] theorem evE_glo (x : Str) (a : A) : evE Pg cf (.glo x a) s h = .ok a h := rfl
@[simp] theorem evE_bin (op : Operator) (a b : E) : evE Pg cf (.bin op a b) s h = (evE Pg cf a s h).bind fun x h1 => (evE Pg cf b s h1).bind fun y h2 => R.of (binOp h2 op x y) h2 := rfl
@[simp] theorem evE_neg (a : E) : evE Pg cf (.neg a) s h = (evE Pg cf a s h).bind fun x h1 => match x with | .int i => .ok (.int (-i)) h1 | _ => .bad := rfl
@[simp] theorem evE_cmp (op : CmpOp) (a b : E) : evE Pg cf (.cmp op a b) s h = (evE Pg cf a s h).bind fun x h1 => (evE Pg cf b s h1).bind fun y h2 => R.of ((cmpOp h2 op x y).map .bl) h2 := rfl
@[simp] theorem evE_chn (op op' : CmpOp) (a b c : E) : evE Pg cf (.chn op op' a b c) s h = (evE Pg cf a s h).bind fun x h1 => (evE Pg cf b s h1).bind fun y h2 => match cmpOp h2 op x y with | some true => (evE Pg cf c s h2).bind fun z h3 => R.of ((cmpOp h3 op' y z).map .bl) h3 | some false => .ok (.bl false) h2 | none => .bad := rfl
@[simp] theorem evE_and (a b : E) : evE Pg cf (.and a b) s h = (evE Pg cf a s h).bind fun x h1 => match x with | .bl true => ((evE Pg cf b s h1).bind fun y h2 => match y with | .bl k => .ok (.bl k) h2 | _ => .bad) | .bl false => .ok (.bl false) h1 | _ => .bad := rfl
@[simp] theorem evE_or (a b : E) : evE Pg cf (.or a b) s h = (evE Pg cf a s h).bind fun x h1 => match x with | .bl false => ((evE Pg cf b s h1).bind fun y h2 => match y with | .bl k => .ok (.bl k) h2 | _ => .bad) | .bl true => .ok (.bl true) h1 | _ => .bad := rfl
@[simp] theorem evE_not (a : E) : evE Pg cf (.not a) s h = (evE Pg cf a s h).bind fun x h1 => match x with | .bl k => .ok (.bl (!k)) h1 | _ => .bad := rfl
@[simp] theorem evE_ite (c a b : E) : evE Pg cf (.ite c a b) s h = (evE Pg cf c s h).bind fun x h1 => match x with | .bl true => evE Pg cf a s h1 | .bl false => evE Pg cf b s h1 | _ => .bad := rfl
@[simp] theorem evE_call (f : Str) (as : Es) : evE Pg cf (.call f as) s h = (evEs Pg cf as s h).bind fun vs h1 => cf f vs h1 := rfl
@[simp] theorem evE_bi (b : Bn) (as : Es) : evE Pg cf (.bi b as) s h = (evEs Pg cf as s h).bind fun vs h1 => R.of (biOp h1 b vs) h1 := rfl
@[simp] theorem evE_bm (o : E) (m : Bm) (as : Es) : evE Pg cf (.bm o m as) s h = (evE Pg cf o s h).bind fun x h1 => if recvOk m x h1 then (evEs Pg cf as s h1).bind fun vs h2 => bmOp m x vs h2 else .bad := rfl
@[simp] theorem evE_isi (a : E) (t : Ty6) : evE Pg cf (.isi a t) s h = (evE Pg cf a s h).bind fun x h1 => R.of ((isiA h1 x t).map .bl) h1 := rfl
@[simp] theorem evE_ix (a b : E) : evE Pg cf (.ix a b) s h = (evE Pg cf a s h).bind fun x h1 => (evE Pg cf b s h1).bind fun y h2 => R.of (ixA h2 x y) h2 := rfl
@[simp] theorem evE_sl (a : E) (lo hi : Es) : evE Pg cf (.sl a lo hi) s h = (evE Pg cf a s h).bind fun x h1 => ((evEs Pg cf lo s h1).bind fun l h2 => R.of (partA l) h2).bind fun l h2 => ((evEs Pg cf hi s h2).bind fun u h3 => R.of (partA u) h3).bind fun u h3 => R.of (slA h3 x l u) h3 := rfl
@[simp] theorem evE_lst (al : Bool) (es : Es) : evE Pg cf (.lst al es) s h = (evEs Pg cf es s h).bind fun vs h1 => if small vs.length then newL al vs h1 else .bad := rfl
@[simp] theorem evE_tup (es : Es) : evE Pg cf (.tup es) s h = (evEs Pg cf es s h).bind fun vs h1 => if small vs.length then .ok (.tup vs) h1 else .bad := rfl
@[simp] theorem evE_comp (al : Bool) (el : E) (tg : Tg) (it : I) (ifs : Es) (own : List Nat) : evE Pg cf (.comp al el tg it ifs own) s h = (evI Pg cf it s h).bind fun J h1 => if lkOk h J.lk then ((compL J.nx (compB Pg cf el tg ifs own s) J.most 0 [] h1).bind fun ys h6 => newL al ys h6).un J.lk else .bad := rfl
@[simp] theorem evE_dic (kvs : Es) : evE Pg cf (.dic kvs) s h = (evEs Pg cf kvs s (h ++ [.dic false []])).bind fun vs h1 => dicPut h.length vs h1 := rfl
@[simp] theorem evE_lrg (a b : E) : evE Pg cf (.lrg a b) s h = (evE Pg cf a s h).bind fun x h1 => (evE Pg cf b s h1).bind fun y h2 => match x, y with | .int i, .int j => R.of (lrgA i j) h2 | _, _ => .bad := rfl
@[simp] theorem evE_told (b : E) : evE Pg cf (.told b) s h = match evE Pg cf b s h with | .ok v h1 => .ok v h1 | .exc c h1 => if Pg.told.contains c then .ok (.tup [.str "refused", .str c]) h1 else .bad | .bad => .bad := rfl
@[simp] theorem evE_make (c : Str) (as : Es) : evE Pg cf (.make c as) s h = (evEs Pg cf as s h).bind fun vs h1 => match clsI Pg c with | some g => ((cf g (.loc h1.length :: vs) (h1 ++ [.ins c []])).bind fun v h2 => match v with | .non => .ok (.loc h1.length) h2 | _ => .bad) | none => .bad := by
  show (evEs Pg cf as s h).bind _ = _
  congr 1
  funext x h1
  unfold clsI
  cases Pg.cls.lookup c <;> rfl
@[simp] theorem evEs_nil : evEs Pg cf .nil s h = .ok [] h := rfl
@[simp] theorem evEs_cons (e : E) (es : Es) : evEs Pg cf (.cons e es) s h = (evE Pg cf e s h).bind fun x h1 => (evEs Pg cf es s h1).bind fun xs h2 => .ok (x :: xs) h2 := rfl
theorem evI_rng1 (a : E) : evI Pg cf (.rng1 a) s h = (evE Pg cf a s h).bind fun x h1 => match x with | .int j => R.of (rngA 0 j) h1 | _ => .bad := rfl
theorem evI_rng2 (a b : E) : evI Pg cf (.rng2 a b) s h = (evE Pg cf a s h).bind fun x h1 => (evE Pg cf b s h1).bind fun y h2 => match x, y with | .int i, .int j => R.of (rngA i j) h2 | _, _ => .bad := rfl
@[simp] theorem evI_seq (a : E) : evI Pg cf (.seq a) s h = (evE Pg cf a s h).bind fun x h1 => R.of (itA x h1) (lockH x h1) := rfl
@[simp] theorem evI_enu (a : E) : evI Pg cf (.enu a) s h = (evE Pg cf a s h).bind fun x h1 => match listAt h1 x with | some xs => .ok (enuA x xs.length) h1 | none => .bad := rfl
@[simp] theorem evI_zip (a b : E) : evI Pg cf (.zip a b) s h = (evE Pg cf a s h).bind fun x h1 => (evE Pg cf b s h1).bind fun y h2 => match x, y with | .tup xs, .tup ys => .ok (zipT xs ys) h2 | x, y => (match listAt h2 x, listAt h2 y with | some xs, some _ => .ok (zipL x y xs.length) h2 | _, _ => .bad) := rfl
@[simp] theorem evG_nm (i : Nat) (v : A) : evG Pg cf (.nm i) v s h = .ok (s.set i (some v)) h := rfl
@[simp] theorem evG_tp (ts : Tgs) (xs : List A) : evG Pg cf (.tp ts) (.tup xs) s h = if xs.length = tgsLen ts then evGs Pg cf ts xs s h else .bad := rfl
@[simp] theorem evGs_nil : evGs Pg cf .nil [] s h = .ok s h := rfl
@[simp] theorem evGs_cons (t : Tg) (ts : Tgs) (v : A) (r : List A) : evGs Pg cf (.cons t ts) (v :: r) s h = (evG Pg cf t v s h).bind fun s1 h1 => evGs Pg cf ts r s1 h1 := rfl
@[simp] theorem tgsLen_nil : tgsLen .nil = 0 := rfl
@[simp] theorem tgsLen_cons (t : Tg) (ts : Tgs) : tgsLen (.cons t ts) = tgsLen ts + 1 := rfl
@[simp] theorem evS_asg (t : Tg) (e : E) : evS Pg cf (.asg t e) s h = (evE Pg cf e s h).toF s fun v h1 => (evG Pg cf t v s h1).toF s fun s1 h2 => .nx s1 h2 := rfl
@[simp] theorem evS_exp (e : E) : evS Pg cf (.exp e) s h = (evE Pg cf e s h).toF s fun _ h1 => .nx s h1 := rfl
@[simp] theorem evS_ret (e : E) : evS Pg cf (.ret e) s h = (evE Pg cf e s h).toF s fun v h1 => .rt v h1 := rfl
@[simp] theorem evS_ret0 : evS Pg cf .ret0 s h = .rt .non h := rfl
@[simp] theorem evS_ife (c : E) (a b : Ss) : evS Pg cf (.ife c a b) s h = (evE Pg cf c s h).toF s fun v h1 => match v with | .bl true => evSs Pg cf a s h1 | .bl false => evSs Pg cf b s h1 | _ => .bad := rfl
@[simp] theorem evS_fo (t : Tg) (it : I) (b : Ss) : evS Pg cf (.fo t it b) s h = (evI Pg cf it s h).toF s fun J h1 => if lkOk h J.lk then (forL J.nx (forB Pg cf t b) J.most 0 s h1).un J.lk else .bad := rfl
@[simp] theorem evS_wh (c : E) (b : Ss) : evS Pg cf (.wh c b) s h = whileL (evE Pg cf c) (evSs Pg cf b) 1000 s h := rfl
@[simp] theorem evS_rai (c : Str) : evS Pg cf (.rai c) s h = .exc c s h := rfl
@[simp] theorem evS_pas : evS Pg cf .pas s h = .nx s h := rfl
@[simp] theorem evS_brk : evS Pg cf .brk s h = .bk s h := rfl
@[simp] theorem evS_cnt : evS Pg cf .cnt s h = .ct s h := rfl
@[simp] theorem evSs_nil : evSs Pg cf .nil s h = .nx s h := rfl
@[simp] theorem evSs_cons (st : S) (ss : Ss) : evSs Pg cf (.cons st ss) s h = (evS Pg cf st s h).seq fun s1 h1 => evSs Pg cf ss s1 h1 := rfl
@[simp] theorem runFn_eq (fn : Fn) (vs : List A) : runFn Pg cf fn vs h = if vs.length = fn.ps then (evSs Pg cf fn.body (startA fn.slots vs) h).toR else .bad := rfl
@[simp] theorem startA_eq (n : Nat) (vs : List A) : startA n vs = vs.map some ++ List.replicate (n - vs.length) none := rfl
end
section
variable {h : AH}
@[simp] theorem add_ii (i j : Int) : binOp h .Add (.int i) (.int j) = some (.int (i + j)) := rfl
@[simp] theorem sub_ii (i j : Int) : binOp h .Sub (.int i) (.int j) = some (.int (i - j)) := rfl
@[simp] theorem mul_ii (i j : Int) : binOp h .Mult (.int i) (.int j) = if mulOk i j then some (.int (i * j)) else none := rfl
@[simp] theorem mul_li (x : List A) (j : Int) : binOp h .Mult (.lst x) (.int j) = if decide (0 ≤ j) && decide (j ≤ 1000) && decide (x.length ≤ 100) then some (.lst (List.replicate j.toNat x).flatten) else none := rfl
@[simp] theorem div_ii (i j : Int) : binOp h .FloorDiv (.int i) (.int j) = if decide (0 < j) && decide (j < 2 ^ 1000) then some (.int (i / j)) else none := rfl
@[simp] theorem mod_ii (i j : Int) : binOp h .Mod (.int i) (.int j) = if decide (0 < j) then some (.int (i % j)) else none := rfl
@[simp] theorem pow_ii (i j : Int) : binOp h .Pow (.int i) (.int j) = if decide (0 ≤ j) && decide (j ≤ 1000) && decide (0 ≤ i) && decide (i ≤ 1000) then some (.int (i ^ j.toNat)) else none := rfl
@[simp] theorem add_tt (x y : List A) : binOp h .Add (.tup x) (.tup y) = if small (x.length + y.length) then some (.tup (x ++ y)) else none := rfl
@[simp] theorem add_ll (x y : List A) : binOp h .Add (.lst x) (.lst y) = if small (x.length + y.length) then some (.lst (x ++ y)) else none := rfl
@[simp] theorem add_ss (x y : Str) : binOp h .Add (.str x) (.str y) = if small (x.length + y.length) then some (.str (x ++ y)) else none := rfl
@[simp] theorem cmp_eq (a b : A) : cmpOp h .Eq a b = eqA h a b := rfl
@[simp] theorem cmp_ne (a b : A) : cmpOp h .NotEq a b = (eqA h a b).map (!·) := rfl
@[simp] theorem cmp_lt (i j : Int) : cmpOp h .Lt (.int i) (.int j) = some (decide (i < j)) := rfl
@[simp] theorem cmp_le (i j : Int) : cmpOp h .LtE (.int i) (.int j) = some (decide (i ≤ j)) := rfl
@[simp] theorem cmp_gt (i j : Int) : cmpOp h .Gt (.int i) (.int j) = some (decide (j < i)) := rfl
@[simp] theorem cmp_ge (i j : Int) : cmpOp h .GtE (.int i) (.int j) = some (decide (j ≤ i)) := rfl
@[simp] theorem cmp_isnot (a : A) : cmpOp h .IsNot a .non = some (match a with | .non => false | _ => true) := by cases a <;> rfl
@[simp] theorem cmp_is (a : A) : cmpOp h .Is a .non = some (match a with | .non => true | _ => false) := by cases a <;> rfl
@[simp] theorem cmp_in (a b : A) : cmpOp h .In a b = inA h a b := by cases a <;> rfl
@[simp] theorem cmp_nin (a b : A) : cmpOp h .NotIn a b = (inA h a b).map (!·) := by cases a <;> rfl
@[simp] theorem ix_t (xs : List A) (i : Int) : ixA h (.tup xs) (.int i) = L2.atI xs i := rfl
@[simp] theorem ix_l (xs : List A) (i : Int) : ixA h (.lst xs) (.int i) = L2.atI xs i := rfl
@[simp] theorem ix_f (xs : List A) (i : Int) : ixA h (.fro xs) (.int i) = L2.atI xs i := rfl
@[simp] theorem len_t (xs : List A) : lenA h (.tup xs) = some xs.length := rfl
@[simp] theorem len_l (xs : List A) : lenA h (.lst xs) = some xs.length := rfl
@[simp] theorem len_f (xs : List A) : lenA h (.fro xs) = some xs.length := rfl
@[simp] theorem bi_len (a : A) : biOp h .len [a] = (lenA h a).map fun n => .int n := by
  have e : biOp h .len [a] = Option.map (fun n : Int => A.int n) (do let a ← lenA h a; pure (a : Int)) := by cases a <;> simp only [biOp]
  rw [e]
  cases lenA h a <;> rfl
@[simp] theorem bi_min (i j : Int) : biOp h .min [.int i, .int j] = some (.int (if j < i then j else i)) := rfl
@[simp] theorem bi_max (i j : Int) : biOp h .max [.int i, .int j] = some (.int (if j > i then j else i)) := rfl
@[simp] theorem bi_all (a : A) : biOp h .all [a] = match listAt h a with | some xs => (boolsA xs).map fun bs => .bl (bs.all id) | none => none := by cases a <;> rfl
@[simp] theorem bi_sum (a : A) : biOp h .sum [a] = match listAt h a with | some xs => (intsA xs).map fun is => .int (sumI is) | none => none := by cases a <;> rfl
@[simp] theorem bi_sorted (a : A) : biOp h .sorted [a] = match toSort h a with | some xs => (sortA xs).map .lst | none => none := by cases a <;> rfl
@[simp] theorem bi_list (a : A) : biOp h .list [a] = (seqAt h a).map .lst := by cases a <;> rfl
@[simp] theorem bi_tuple_l (xs : List A) : biOp h .tuple [.lst xs] = some (.tup xs) := rfl
@[simp] theorem bi_tuple_t (xs : List A) : biOp h .tuple [.tup xs] = some (.tup xs) := rfl
@[simp] theorem bi_int_b (b : Bool) : biOp h .int [.bl b] = some (.int (if b then 1 else 0)) := rfl
@[simp] theorem listAt_l (xs : List A) : listAt h (.lst xs) = some xs := rfl
@[simp] theorem listAt_f (xs : List A) : listAt h (.fro xs) = some xs := rfl
@[simp] theorem seqAt_t (xs : List A) : seqAt h (.tup xs) = some xs := rfl
@[simp] theorem seqAt_l (xs : List A) : seqAt h (.lst xs) = some xs := rfl
@[simp] theorem toSort_l (xs : List A) : toSort h (.lst xs) = some xs := rfl
@[simp] theorem boolsA_nil : boolsA [] = some [] := rfl
@[simp] theorem boolsA_cons (b : Bool) (r : List A) : boolsA (.bl b :: r) = (boolsA r).map (b :: ·) := rfl
@[simp] theorem intsA_nil : intsA [] = some [] := rfl
@[simp] theorem intsA_cons (b : Int) (r : List A) : intsA (.int b :: r) = (intsA r).map (b :: ·) := rfl
@[simp] theorem partA_nil : partA [] = some none := rfl
@[simp] theorem partA_one (i : Int) : partA [.int i] = some (some i) := rfl
@[simp] theorem newL_f (xs : List A) : newL false xs h = .ok (.lst xs) h := rfl
@[simp] theorem newL_t (xs : List A) : newL true xs h = .ok (.loc h.length) (h ++ [.lst xs]) := rfl
@[simp] theorem wipeA_nil (s : ASt) : wipeA s [] = s := rfl
@[simp] theorem wipeA_cons (s : ASt) (v : Nat) (vs : List Nat) : wipeA s (v :: vs) = (wipeA s vs).set v none := rfl
@[simp] theorem sl_t (xs : List A) (lo hi : Option Int) : slA h (.tup xs) lo hi = some (.tup (cutA xs lo hi)) := rfl
@[simp] theorem sl_l (xs : List A) (lo hi : Option Int) : slA h (.lst xs) lo hi = some (.lst (cutA xs lo hi)) := rfl
@[simp] theorem isi_n (t : Ty6) : isiA h .non t = some false := rfl
@[simp] theorem isi_b (b : Bool) (t : Ty6) : isiA h (.bl b) t = some (decide (t = .bool) || decide (t = .int)) := rfl
@[simp] theorem isi_i (i : Int) (t : Ty6) : isiA h (.int i) t = some (decide (t = .int)) := rfl
@[simp] theorem isi_s (z : Str) (t : Ty6) : isiA h (.str z) t = some (decide (t = .str)) := rfl
@[simp] theorem isi_t (xs : List A) (t : Ty6) : isiA h (.tup xs) t = some (decide (t = .tuple)) := rfl
@[simp] theorem isi_l (xs : List A) (t : Ty6) : isiA h (.lst xs) t = some (decide (t = .list)) := rfl
@[simp] theorem isi_f (xs : List A) (t : Ty6) : isiA h (.fro xs) t = some (decide (t = .list)) := rfl
end
theorem callF_at {Pg : Prog} {n : Nat} {key : Str} {fn : Fn} (h : Pg.fns.lookup key = some fn) (as : List A) (hh : AH) : callF Pg (n + 1) key as hh = runFn Pg (callF Pg n) fn as hh := by
  show (match Pg.fns.lookup key with
    | some fn => runFn Pg (callF Pg n) fn as hh
    | none => .bad) = _
  rw [h]
@[simp] theorem small_le (n : Nat) : small n = decide (n ≤ 100000) := rfl
end MT

namespace Lk20
open PySem L2 MI
def f_is_name : Fn := ⟨1, 3,
  (.cons (.ret (.and (.isi (.var 0) .str) (.and (.chn .LtE .LtE (.con (.int 1)) (.bi .len (.cons (.var 0) .nil)) (.glo "MOST_NAME" (.int 4))) (.bi .all (.cons (.comp false (.cmp .In (.var 1) (.glo "SMALL" (.str "abcdefghijklmnopqrstuvwxyz"))) (.nm 1) (.seq (.var 0)) .nil [2, 1]) .nil)))))
  .nil)⟩
def f_need_name : Fn := ⟨1, 1,
  (.cons (.ife (.not (.call "is_name" (.cons (.var 0) .nil))) (.cons (.rai "BadName")
    .nil) .nil)
  .nil)⟩
def f_is_text : Fn := ⟨1, 4,
  (.cons (.asg (.nm 1) (.and (.isi (.var 0) .str) (.cmp .LtE (.bi .len (.cons (.var 0) .nil)) (.glo "MOST_TEXT" (.int 20)))))
  (.cons (.ret (.and (.var 1) (.bi .all (.cons (.comp false (.and (.chn .LtE .LtE (.con (.str " ")) (.var 2) (.con (.str "~"))) (.cmp .NotEq (.bi .ord (.cons (.var 2) .nil)) (.glo "BARRED" (.int 37)))) (.nm 2) (.seq (.var 0)) .nil [3, 2]) .nil))))
  .nil))⟩
def f_need_text : Fn := ⟨1, 1,
  (.cons (.ife (.not (.call "is_text" (.cons (.var 0) .nil))) (.cons (.rai "BadText")
    .nil) .nil)
  .nil)⟩
def f_is_count : Fn := ⟨3, 3,
  (.cons (.ret (.and (.isi (.var 0) .int) (.and (.not (.isi (.var 0) .bool)) (.chn .LtE .LtE (.var 1) (.var 0) (.var 2)))))
  .nil)⟩
def f_need_rule : Fn := ⟨1, 6,
  (.cons (.asg (.nm 1) (.and (.isi (.var 0) .tuple) (.cmp .Eq (.bi .len (.cons (.var 0) .nil)) (.bi .len (.cons (.glo "BOUNDS" (.tup [(.tup [(.int 1), (.int 9)]), (.tup [(.int 1), (.int 3)]), (.tup [(.int 1), (.int 60)]), (.tup [(.int 1), (.int 5)]), (.tup [(.int 1), (.int 20)]), (.tup [(.int 1), (.int 3)])])) .nil)))))
  (.cons (.ife (.or (.not (.var 1)) (.not (.bi .all (.cons (.comp false (.call "is_count" (.cons (.var 2) (.cons (.var 3) (.cons (.var 4) .nil)))) (.tp (.cons (.nm 2) (.cons (.tp (.cons (.nm 3) (.cons (.nm 4) .nil))) .nil))) (.zip (.var 0) (.glo "BOUNDS" (.tup [(.tup [(.int 1), (.int 9)]), (.tup [(.int 1), (.int 3)]), (.tup [(.int 1), (.int 60)]), (.tup [(.int 1), (.int 5)]), (.tup [(.int 1), (.int 20)]), (.tup [(.int 1), (.int 3)])]))) .nil [5, 2, 3, 4]) .nil)))) (.cons (.rai "BadRule")
    .nil) .nil)
  .nil))⟩
def f_wait_of : Fn := ⟨2, 4,
  (.cons (.asg (.nm 2) (.ix (.var 0) (.con (.int 0))))
  (.cons (.fo (.nm 3) (.rng1 (.bin .Sub (.var 1) (.con (.int 1)))) (.cons (.asg (.nm 2) (.bi .min (.cons (.ix (.var 0) (.con (.int 2))) (.cons (.bin .Mult (.var 2) (.ix (.var 0) (.con (.int 1)))) .nil))))
    .nil))
  (.cons (.ret (.bi .min (.cons (.ix (.var 0) (.con (.int 2))) (.cons (.var 2) .nil))))
  .nil)))⟩
def f_Call___init__ : Fn := ⟨5, 5,
  (.cons (.asg (.fl (.var 0) "key") (.var 1))
  (.cons (.asg (.fl (.var 0) "goal") (.var 2))
  (.cons (.asg (.fl (.var 0) "text") (.var 3))
  (.cons (.asg (.fl (.var 0) "word") (.con (.str "waits")))
  (.cons (.asg (.fl (.var 0) "fails") (.con (.int 0)))
  (.cons (.asg (.fl (.var 0) "time") (.var 4))
  (.cons (.asg (.fl (.var 0) "many") (.con (.int 0)))
  (.cons (.asg (.fl (.var 0) "place") (.var 2))
  .nil))))))))⟩
def f_Caller___init__ : Fn := ⟨2, 2,
  (.cons (.exp (.call "need_rule" (.cons (.var 1) .nil)))
  (.cons (.asg (.fl (.var 0) "rule") (.var 1))
  (.cons (.asg (.fl (.var 0) "clock") (.con (.int 0)))
  (.cons (.asg (.fl (.var 0) "roads") (.dic .nil))
  (.cons (.asg (.fl (.var 0) "calls") (.dic .nil))
  (.cons (.asg (.fl (.var 0) "rows") (.lst true .nil))
  .nil))))))⟩
def f_Caller_now : Fn := ⟨1, 1,
  (.cons (.ret (.fld (.var 0) "clock"))
  .nil)⟩
def f_Caller_say : Fn := ⟨3, 3,
  (.cons (.exp (.bm (.fld (.var 0) "rows") .append (.cons (.tup (.cons (.fld (.var 0) "clock") (.cons (.var 1) (.cons (.var 2) .nil)))) .nil)))
  .nil)⟩
def f_Caller_log : Fn := ⟨1, 1,
  (.cons (.ret (.bi .list (.cons (.fld (.var 0) "rows") .nil)))
  .nil)⟩
def f_Caller_need_address : Fn := ⟨2, 2,
  (.cons (.exp (.call "need_name" (.cons (.var 1) .nil)))
  (.cons (.ife (.cmp .NotIn (.var 1) (.fld (.var 0) "roads")) (.cons (.rai "BadName")
    .nil) .nil)
  .nil))⟩
def f_Caller_add_address : Fn := ⟨2, 2,
  (.cons (.exp (.call "need_name" (.cons (.var 1) .nil)))
  (.cons (.ife (.or (.cmp .In (.var 1) (.fld (.var 0) "roads")) (.cmp .GtE (.bi .len (.cons (.fld (.var 0) "roads") .nil)) (.glo "MOST_ADDRESSES" (.int 5)))) (.cons (.rai "BadName")
    .nil) .nil)
  (.cons (.asg (.sb (.fld (.var 0) "roads") (.var 1)) (.var 1))
  .nil)))⟩
def f_Caller_road : Fn := ⟨2, 3,
  (.cons (.asg (.nm 2) (.lst true (.cons (.var 1) .nil)))
  (.cons (.wh (.cmp .NotEq (.ix (.fld (.var 0) "roads") (.ix (.var 2) (.neg (.con (.int 1))))) (.ix (.var 2) (.neg (.con (.int 1))))) (.cons (.exp (.bm (.var 2) .append (.cons (.ix (.fld (.var 0) "roads") (.ix (.var 2) (.neg (.con (.int 1))))) .nil)))
    .nil))
  (.cons (.ret (.var 2))
  .nil)))⟩
def f_Caller_end_of : Fn := ⟨2, 2,
  (.cons (.exp (.meth (.var 0) "need_address" (.cons (.var 1) .nil)))
  (.cons (.ret (.ix (.meth (.var 0) "road" (.cons (.var 1) .nil)) (.neg (.con (.int 1)))))
  .nil))⟩
def f_Caller_lead : Fn := ⟨3, 3,
  (.cons (.exp (.meth (.var 0) "need_address" (.cons (.var 1) .nil)))
  (.cons (.exp (.meth (.var 0) "need_address" (.cons (.var 2) .nil)))
  (.cons (.ife (.and (.cmp .NotEq (.var 1) (.var 2)) (.cmp .In (.var 1) (.meth (.var 0) "road" (.cons (.var 2) .nil)))) (.cons (.rai "BadName")
    .nil) .nil)
  (.cons (.asg (.sb (.fld (.var 0) "roads") (.var 1)) (.var 2))
  .nil))))⟩
def f_Caller_call : Fn := ⟨2, 2,
  (.cons (.ife (.not (.call "is_count" (.cons (.var 1) (.cons (.con (.int 1)) (.cons (.bi .len (.cons (.fld (.var 0) "calls") .nil)) .nil))))) (.cons (.rai "BadCall")
    .nil) .nil)
  (.cons (.ret (.ix (.fld (.var 0) "calls") (.var 1)))
  .nil))⟩
def f_Caller_numbers : Fn := ⟨1, 1,
  (.cons (.ret (.bi .sorted (.cons (.fld (.var 0) "calls") .nil)))
  .nil)⟩
def f_Caller_send : Fn := ⟨4, 5,
  (.cons (.exp (.call "need_name" (.cons (.var 1) .nil)))
  (.cons (.exp (.meth (.var 0) "need_address" (.cons (.var 2) .nil)))
  (.cons (.exp (.call "need_text" (.cons (.var 3) .nil)))
  (.cons (.ife (.cmp .GtE (.bi .len (.cons (.fld (.var 0) "calls") .nil)) (.glo "MOST_CALLS" (.int 30))) (.cons (.rai "Full")
    .nil) .nil)
  (.cons (.asg (.nm 4) (.bin .Add (.bi .len (.cons (.fld (.var 0) "calls") .nil)) (.con (.int 1))))
  (.cons (.asg (.sb (.fld (.var 0) "calls") (.var 4)) (.make "Call" (.cons (.var 1) (.cons (.var 2) (.cons (.var 3) (.cons (.fld (.var 0) "clock") .nil))))))
  (.cons (.exp (.meth (.var 0) "say" (.cons (.var 4) (.cons (.con (.str "sent")) .nil))))
  (.cons (.ret (.var 4))
  .nil))))))))⟩
def f_Caller_state : Fn := ⟨2, 2,
  (.cons (.ret (.fld (.meth (.var 0) "call" (.cons (.var 1) .nil)) "word"))
  .nil)⟩
def f_Caller_tries : Fn := ⟨2, 2,
  (.cons (.ret (.fld (.meth (.var 0) "call" (.cons (.var 1) .nil)) "many"))
  .nil)⟩
def f_Caller_time_of : Fn := ⟨2, 3,
  (.cons (.asg (.nm 2) (.meth (.var 0) "call" (.cons (.var 1) .nil)))
  (.cons (.ife (.cmp .Eq (.fld (.var 2) "word") (.con (.str "waits"))) (.cons (.ret (.fld (.var 2) "time"))
    .nil) .nil)
  (.cons (.ret (.ite (.cmp .Eq (.fld (.var 2) "word") (.con (.str "tried"))) (.bin .Add (.fld (.var 2) "time") (.ix (.fld (.var 0) "rule") (.con (.int 4)))) (.con .non)))
  .nil)))⟩
def f_Caller_is_first : Fn := ⟨2, 6,
  (.cons (.asg (.nm 2) (.fld (.ix (.fld (.var 0) "calls") (.var 1)) "key"))
  (.cons (.asg (.nm 3) (.comp false (.ix (.fld (.var 0) "calls") (.var 4)) (.nm 4) (.rng2 (.con (.int 1)) (.var 1)) (.cons (.cmp .Eq (.fld (.ix (.fld (.var 0) "calls") (.var 4)) "key") (.var 2)) .nil) [5, 4]))
  (.cons (.ret (.bi .all (.cons (.comp false (.cmp .In (.fld (.var 4) "word") (.tup (.cons (.con (.str "done")) (.cons (.con (.str "gone")) .nil)))) (.nm 4) (.seq (.var 3)) .nil [5, 4]) .nil)))
  .nil)))⟩
def f_Caller_busy : Fn := ⟨2, 6,
  (.cons (.asg (.nm 2) (.comp false (.ix (.fld (.var 0) "calls") (.var 3)) (.nm 3) (.seq (.fld (.var 0) "calls")) .nil [5, 3]))
  (.cons (.ret (.bi .len (.cons (.comp false (.var 4) (.nm 4) (.seq (.var 2)) (.cons (.and (.cmp .Eq (.fld (.var 4) "word") (.con (.str "tried"))) (.cmp .Eq (.fld (.var 4) "place") (.var 1))) .nil) [5, 4]) .nil)))
  .nil))⟩
def f_Caller_due : Fn := ⟨1, 4,
  (.cons (.asg (.nm 1) (.lst true .nil))
  (.cons (.fo (.nm 2) (.seq (.meth (.var 0) "numbers" .nil)) (.cons (.asg (.nm 3) (.ix (.fld (.var 0) "calls") (.var 2)))
    (.cons (.ife (.and (.cmp .Eq (.fld (.var 3) "word") (.con (.str "waits"))) (.and (.cmp .LtE (.fld (.var 3) "time") (.fld (.var 0) "clock")) (.meth (.var 0) "is_first" (.cons (.var 2) .nil)))) (.cons (.ife (.cmp .Lt (.meth (.var 0) "busy" (.cons (.meth (.var 0) "end_of" (.cons (.fld (.var 3) "goal") .nil)) .nil)) (.ix (.fld (.var 0) "rule") (.con (.int 5)))) (.cons (.exp (.bm (.var 1) .append (.cons (.var 2) .nil)))
        .nil) .nil)
      .nil) .nil)
    .nil)))
  (.cons (.ret (.var 1))
  .nil)))⟩
def f_Caller_begin : Fn := ⟨2, 3,
  (.cons (.asg (.nm 2) (.ix (.fld (.var 0) "calls") (.var 1)))
  (.cons (.asg (.fl (.var 2) "word") (.con (.str "tried")))
  (.cons (.asg (.fl (.var 2) "time") (.fld (.var 0) "clock"))
  (.cons (.asg (.fl (.var 2) "place") (.meth (.var 0) "end_of" (.cons (.fld (.var 2) "goal") .nil)))
  (.cons (.asg (.fl (.var 2) "many") (.bin .Add (.fld (.var 2) "many") (.con (.int 1))))
  (.cons (.exp (.meth (.var 0) "say" (.cons (.var 1) (.cons (.con (.str "tried")) .nil))))
  (.cons (.ret (.tup (.cons (.var 1) (.cons (.bin .Add (.con (.str "m")) (.bi .str (.cons (.var 1) .nil))) (.cons (.fld (.var 2) "place") (.cons (.fld (.var 2) "key") (.cons (.fld (.var 2) "text") .nil)))))))
  .nil)))))))⟩
def f_Caller_attempt : Fn := ⟨1, 2,
  (.cons (.asg (.nm 1) (.meth (.var 0) "due" .nil))
  (.cons (.ife (.cmp .Eq (.var 1) (.lst false .nil)) (.cons (.ret (.con .non))
    .nil) .nil)
  (.cons (.ret (.meth (.var 0) "begin" (.cons (.ix (.var 1) (.con (.int 0))) .nil)))
  .nil)))⟩
def f_Caller_fail : Fn := ⟨2, 3,
  (.cons (.asg (.nm 2) (.ix (.fld (.var 0) "calls") (.var 1)))
  (.cons (.asg (.fl (.var 2) "fails") (.bin .Add (.fld (.var 2) "fails") (.con (.int 1))))
  (.cons (.ife (.cmp .GtE (.fld (.var 2) "fails") (.ix (.fld (.var 0) "rule") (.con (.int 3)))) (.cons (.asg (.fl (.var 2) "word") (.con (.str "put by")))
    (.cons (.exp (.meth (.var 0) "say" (.cons (.var 1) (.cons (.con (.str "put by")) .nil))))
    .nil)) (.cons (.asg (.fl (.var 2) "word") (.con (.str "waits")))
    (.cons (.asg (.fl (.var 2) "time") (.bin .Add (.fld (.var 0) "clock") (.call "wait_of" (.cons (.fld (.var 0) "rule") (.cons (.fld (.var 2) "fails") .nil)))))
    (.cons (.exp (.meth (.var 0) "say" (.cons (.var 1) (.cons (.con (.str "later")) .nil))))
    .nil))))
  .nil)))⟩
def f_Caller_answer : Fn := ⟨3, 4,
  (.cons (.asg (.nm 3) (.meth (.var 0) "call" (.cons (.var 1) .nil)))
  (.cons (.ife (.or (.not (.isi (.var 2) .str)) (.or (.cmp .NotIn (.var 2) (.glo "WORDS" (.tup [(.str "good"), (.str "later"), (.str "never")]))) (.cmp .NotEq (.fld (.var 3) "word") (.con (.str "tried"))))) (.cons (.rai "BadCall")
    .nil) .nil)
  (.cons (.ife (.cmp .Eq (.var 2) (.con (.str "later"))) (.cons (.exp (.meth (.var 0) "fail" (.cons (.var 1) .nil)))
    .nil) (.cons (.asg (.fl (.var 3) "word") (.ite (.cmp .Eq (.var 2) (.con (.str "good"))) (.con (.str "done")) (.con (.str "put by"))))
    (.cons (.exp (.meth (.var 0) "say" (.cons (.var 1) (.cons (.fld (.var 3) "word") .nil))))
    .nil)))
  .nil)))⟩
def f_Caller_tick : Fn := ⟨2, 5,
  (.cons (.ife (.not (.call "is_count" (.cons (.var 1) (.cons (.con (.int 0)) (.cons (.glo "MOST_TICKS" (.int 100)) .nil))))) (.cons (.rai "BadTime")
    .nil) .nil)
  (.cons (.fo (.nm 2) (.rng1 (.var 1)) (.cons (.asg (.fl (.var 0) "clock") (.bin .Add (.fld (.var 0) "clock") (.con (.int 1))))
    (.cons (.fo (.nm 3) (.seq (.meth (.var 0) "numbers" .nil)) (.cons (.asg (.nm 4) (.ix (.fld (.var 0) "calls") (.var 3)))
      (.cons (.ife (.and (.cmp .Eq (.fld (.var 4) "word") (.con (.str "tried"))) (.cmp .GtE (.bin .Sub (.fld (.var 0) "clock") (.fld (.var 4) "time")) (.ix (.fld (.var 0) "rule") (.con (.int 4))))) (.cons (.exp (.meth (.var 0) "fail" (.cons (.var 3) .nil)))
        .nil) .nil)
      .nil)))
    .nil)))
  .nil))⟩
def f_Caller_go_on : Fn := ⟨2, 3,
  (.cons (.asg (.nm 2) (.meth (.var 0) "call" (.cons (.var 1) .nil)))
  (.cons (.ife (.cmp .NotEq (.fld (.var 2) "word") (.con (.str "put by"))) (.cons (.rai "BadCall")
    .nil) .nil)
  (.cons (.asg (.fl (.var 2) "word") (.con (.str "waits")))
  (.cons (.asg (.fl (.var 2) "fails") (.con (.int 0)))
  (.cons (.asg (.fl (.var 2) "time") (.fld (.var 0) "clock"))
  (.cons (.exp (.meth (.var 0) "say" (.cons (.var 1) (.cons (.con (.str "sent")) .nil))))
  .nil))))))⟩
def f_Caller_drop : Fn := ⟨2, 3,
  (.cons (.asg (.nm 2) (.meth (.var 0) "call" (.cons (.var 1) .nil)))
  (.cons (.ife (.cmp .NotIn (.fld (.var 2) "word") (.tup (.cons (.con (.str "waits")) (.cons (.con (.str "put by")) .nil)))) (.cons (.rai "BadCall")
    .nil) .nil)
  (.cons (.asg (.fl (.var 2) "word") (.con (.str "gone")))
  (.cons (.exp (.meth (.var 0) "say" (.cons (.var 1) (.cons (.con (.str "gone")) .nil))))
  .nil))))⟩
def f_Caller_change : Fn := ⟨3, 4,
  (.cons (.asg (.nm 3) (.meth (.var 0) "call" (.cons (.var 1) .nil)))
  (.cons (.exp (.meth (.var 0) "need_address" (.cons (.var 2) .nil)))
  (.cons (.ife (.cmp .NotIn (.fld (.var 3) "word") (.tup (.cons (.con (.str "waits")) (.cons (.con (.str "put by")) .nil)))) (.cons (.rai "BadCall")
    .nil) .nil)
  (.cons (.asg (.fl (.var 3) "goal") (.var 2))
  .nil))))⟩
def f__law_cell : Fn := ⟨2, 2,
  (.cons (.ife (.cmp .Eq (.var 0) (.lst false .nil)) (.cons (.ret (.bin .Mult (.var 1) (.con (.int 7919))))
    .nil) .nil)
  (.cons (.ret (.bin .Add (.ix (.var 0) (.bin .Mod (.var 1) (.bi .len (.cons (.var 0) .nil)))) (.bin .Mult (.bin .FloorDiv (.var 1) (.bi .len (.cons (.var 0) .nil))) (.con (.int 104729)))))
  .nil))⟩
def f__law_drawn : Fn := ⟨2, 3,
  (.cons (.asg (.nm 2) (.bin .Mod (.bin .Add (.bin .Mult (.var 0) (.con (.int 6364136223846793005))) (.bin .Mult (.bin .Add (.var 1) (.con (.int 1))) (.con (.int 1442695040888963407)))) (.con (.int 340282366920938463463374607431768211507))))
  (.cons (.asg (.nm 2) (.bin .Mod (.bin .Mult (.var 2) (.var 2)) (.con (.int 340282366920938463463374607431768211297))))
  (.cons (.asg (.nm 2) (.bin .Mult (.bin .Mult (.bin .Add (.bin .Mod (.var 2) (.con (.int 18446744073709551557))) (.con (.int 1))) (.bin .Add (.bin .FloorDiv (.var 2) (.con (.int 18446744073709551557))) (.con (.int 1)))) (.var 2)))
  (.cons (.ret (.bin .Mod (.var 2) (.con (.int 340282366920938463463374607431768211507))))
  .nil))))⟩
def f__law_rule : Fn := ⟨1, 9,
  (.cons (.asg (.nm 1) (.lst false (.cons (.tup (.cons (.con (.int 1)) (.cons (.con (.int 9)) .nil))) (.cons (.tup (.cons (.con (.int 1)) (.cons (.con (.int 3)) .nil))) (.cons (.tup (.cons (.con (.int 1)) (.cons (.con (.int 60)) .nil))) (.cons (.tup (.cons (.con (.int 1)) (.cons (.con (.int 5)) .nil))) (.cons (.tup (.cons (.con (.int 1)) (.cons (.con (.int 20)) .nil))) (.cons (.tup (.cons (.con (.int 1)) (.cons (.con (.int 3)) .nil))) .nil))))))))
  (.cons (.asg (.nm 2) (.lst true .nil))
  (.cons (.fo (.tp (.cons (.nm 3) (.cons (.tp (.cons (.nm 5) (.cons (.nm 6) .nil))) .nil))) (.enu (.var 1)) (.cons (.asg (.nm 4) (.call "_law_drawn" (.cons (.var 0) (.cons (.var 3) .nil))))
    (.cons (.exp (.bm (.var 2) .append (.cons (.ix (.lst false (.cons (.var 5) (.cons (.var 6) (.cons (.bin .Add (.var 5) (.bin .Mod (.bin .FloorDiv (.var 4) (.con (.int 4))) (.bin .Add (.bin .Sub (.var 6) (.var 5)) (.con (.int 1))))) (.cons (.bin .Add (.var 5) (.bin .Mod (.bin .FloorDiv (.var 4) (.con (.int 4))) (.con (.int 3)))) .nil))))) (.bin .Mod (.var 4) (.con (.int 4)))) .nil)))
    .nil)))
  (.cons (.ret (.bi .tuple (.cons (.comp false (.bi .min (.cons (.var 7) (.cons (.var 6) .nil))) (.tp (.cons (.nm 7) (.cons (.tp (.cons (.nm 5) (.cons (.nm 6) .nil))) .nil))) (.zip (.var 2) (.var 1)) .nil [8, 7, 5, 6]) .nil)))
  .nil))))⟩
def f__law_wait : Fn := ⟨2, 4,
  (.cons (.asg (.nm 2) (.ix (.var 0) (.con (.int 0))))
  (.cons (.fo (.nm 3) (.rng2 (.con (.int 1)) (.var 1)) (.cons (.asg (.nm 2) (.bin .Mult (.var 2) (.ix (.var 0) (.con (.int 1)))))
    .nil))
  (.cons (.ret (.ix (.bi .sorted (.cons (.lst false (.cons (.var 2) (.cons (.ix (.var 0) (.con (.int 2))) .nil))) .nil)) (.con (.int 0))))
  .nil)))⟩
def f__law_any_name : Fn := ⟨2, 4,
  (.cons (.ret (.bm (.con (.str "")) .join (.cons (.comp false (.ix (.con (.str "abcdefghijklmnopqrstuvwxyz")) (.bin .Mod (.call "_law_drawn" (.cons (.var 0) (.cons (.var 2) .nil))) (.con (.int 26)))) (.nm 2) (.rng1 (.bin .Add (.con (.int 1)) (.bin .Mod (.var 0) (.var 1)))) .nil [3, 2]) .nil)))
  .nil)⟩
def f__law_any_text : Fn := ⟨2, 5,
  (.cons (.asg (.nm 2) (.con (.str " !\"#$&'()*+,-./0123456789:;<=>?@ABCDEFGHIJKLMNOPQRSTUVWXYZ[\\]^_`abcdefghijklmnopqrstuvwxyz{|}~")))
  (.cons (.ret (.bm (.con (.str "")) .join (.cons (.comp false (.ix (.var 2) (.bin .Mod (.call "_law_drawn" (.cons (.var 0) (.cons (.var 3) .nil))) (.con (.int 94)))) (.nm 3) (.rng1 (.bin .Mod (.var 0) (.bin .Add (.var 1) (.con (.int 1))))) .nil [4, 3]) .nil)))
  .nil))⟩
def f__law_own : Fn := ⟨1, 1,
  (.cons (.ret (.dic (.cons (.con (.str "rule")) (.cons (.var 0) (.cons (.con (.str "now")) (.cons (.con (.int 0)) (.cons (.con (.str "roads")) (.cons (.dic .nil) (.cons (.con (.str "calls")) (.cons (.lst true .nil) (.cons (.con (.str "log")) (.cons (.lst true .nil) .nil))))))))))))
  .nil)⟩
def f__law_real : Fn := ⟨2, 2,
  (.cons (.wh (.cmp .NotEq (.ix (.ix (.var 0) (.con (.str "roads"))) (.var 1)) (.var 1)) (.cons (.asg (.nm 1) (.ix (.ix (.var 0) (.con (.str "roads"))) (.var 1)))
    .nil))
  (.cons (.ret (.var 1))
  .nil))⟩
def f__law_may : Fn := ⟨2, 8,
  (.cons (.asg (.nm 2) (.ix (.ix (.var 0) (.con (.str "calls"))) (.bin .Sub (.var 1) (.con (.int 1)))))
  (.cons (.ife (.or (.cmp .NotEq (.ix (.var 2) (.con (.str "word"))) (.con (.str "waits"))) (.cmp .Gt (.ix (.var 2) (.con (.str "time"))) (.ix (.var 0) (.con (.str "now"))))) (.cons (.ret (.con (.bl false)))
    .nil) .nil)
  (.cons (.asg (.nm 3) (.comp false (.ix (.var 5) (.con (.str "word"))) (.nm 5) (.seq (.sl (.ix (.var 0) (.con (.str "calls"))) .nil (.cons (.bin .Sub (.var 1) (.con (.int 1))) .nil))) (.cons (.cmp .Eq (.ix (.var 5) (.con (.str "key"))) (.ix (.var 2) (.con (.str "key")))) .nil) [7, 5]))
  (.cons (.ife (.cmp .Gt (.bi .len (.cons (.comp false (.var 6) (.nm 6) (.seq (.var 3)) (.cons (.cmp .NotIn (.var 6) (.tup (.cons (.con (.str "done")) (.cons (.con (.str "gone")) .nil)))) .nil) [7, 6]) .nil)) (.con (.int 0))) (.cons (.ret (.con (.bl false)))
    .nil) .nil)
  (.cons (.asg (.nm 4) (.call "_law_real" (.cons (.var 0) (.cons (.ix (.var 2) (.con (.str "goal"))) .nil))))
  (.cons (.ret (.cmp .Lt (.bi .len (.cons (.comp false (.var 5) (.nm 5) (.seq (.ix (.var 0) (.con (.str "calls")))) (.cons (.and (.cmp .Eq (.ix (.var 5) (.con (.str "word"))) (.con (.str "tried"))) (.cmp .Eq (.ix (.var 5) (.con (.str "place"))) (.var 4))) .nil) [7, 5]) .nil)) (.ix (.ix (.var 0) (.con (.str "rule"))) (.con (.int 5)))))
  .nil))))))⟩
def f__law_due : Fn := ⟨1, 3,
  (.cons (.ret (.comp false (.var 1) (.nm 1) (.rng2 (.con (.int 1)) (.bin .Add (.bi .len (.cons (.ix (.var 0) (.con (.str "calls"))) .nil)) (.con (.int 1)))) (.cons (.call "_law_may" (.cons (.var 0) (.cons (.var 1) .nil))) .nil) [2, 1]))
  .nil)⟩
def f__law_fail : Fn := ⟨2, 3,
  (.cons (.asg (.nm 2) (.ix (.ix (.var 0) (.con (.str "calls"))) (.bin .Sub (.var 1) (.con (.int 1)))))
  (.cons (.asg (.sb (.var 2) (.con (.str "fails"))) (.bin .Add (.ix (.var 2) (.con (.str "fails"))) (.con (.int 1))))
  (.cons (.asg (.sb (.var 2) (.con (.str "word"))) (.ite (.cmp .Eq (.ix (.var 2) (.con (.str "fails"))) (.ix (.ix (.var 0) (.con (.str "rule"))) (.con (.int 3)))) (.con (.str "put by")) (.con (.str "waits"))))
  (.cons (.exp (.bm (.ix (.var 0) (.con (.str "log"))) .append (.cons (.tup (.cons (.ix (.var 0) (.con (.str "now"))) (.cons (.var 1) (.cons (.ite (.cmp .Eq (.ix (.var 2) (.con (.str "word"))) (.con (.str "put by"))) (.con (.str "put by")) (.con (.str "later"))) .nil)))) .nil)))
  (.cons (.ife (.cmp .Eq (.ix (.var 2) (.con (.str "word"))) (.con (.str "waits"))) (.cons (.asg (.sb (.var 2) (.con (.str "time"))) (.bin .Add (.ix (.var 0) (.con (.str "now"))) (.call "_law_wait" (.cons (.ix (.var 0) (.con (.str "rule"))) (.cons (.ix (.var 2) (.con (.str "fails"))) .nil)))))
    .nil) .nil)
  .nil)))))⟩
def f__law_send : Fn := ⟨4, 5,
  (.cons (.ife (.cmp .NotIn (.var 2) (.ix (.var 0) (.con (.str "roads")))) (.cons (.ret (.tup (.cons (.con (.str "refused")) (.cons (.con (.str "BadName")) .nil))))
    .nil) .nil)
  (.cons (.ife (.cmp .Eq (.bi .len (.cons (.ix (.var 0) (.con (.str "calls"))) .nil)) (.con (.int 30))) (.cons (.ret (.tup (.cons (.con (.str "refused")) (.cons (.con (.str "Full")) .nil))))
    .nil) .nil)
  (.cons (.asg (.nm 4) (.dic (.cons (.con (.str "key")) (.cons (.var 1) (.cons (.con (.str "goal")) (.cons (.var 2) (.cons (.con (.str "place")) (.cons (.var 2) (.cons (.con (.str "text")) (.cons (.var 3) (.cons (.con (.str "word")) (.cons (.con (.str "waits")) (.cons (.con (.str "fails")) (.cons (.con (.int 0)) (.cons (.con (.str "many")) (.cons (.con (.int 0)) .nil))))))))))))))))
  (.cons (.asg (.sb (.var 4) (.con (.str "time"))) (.ix (.var 0) (.con (.str "now"))))
  (.cons (.exp (.bm (.ix (.var 0) (.con (.str "calls"))) .append (.cons (.var 4) .nil)))
  (.cons (.exp (.bm (.ix (.var 0) (.con (.str "log"))) .append (.cons (.tup (.cons (.ix (.var 0) (.con (.str "now"))) (.cons (.bi .len (.cons (.ix (.var 0) (.con (.str "calls"))) .nil)) (.cons (.con (.str "sent")) .nil)))) .nil)))
  (.cons (.ret (.bi .len (.cons (.ix (.var 0) (.con (.str "calls"))) .nil)))
  .nil)))))))⟩
def f__law_try : Fn := ⟨1, 3,
  (.cons (.asg (.nm 1) (.call "_law_due" (.cons (.var 0) .nil)))
  (.cons (.ife (.cmp .Eq (.var 1) (.lst false .nil)) (.cons (.ret (.con .non))
    .nil) .nil)
  (.cons (.asg (.nm 2) (.ix (.ix (.var 0) (.con (.str "calls"))) (.bin .Sub (.ix (.var 1) (.con (.int 0))) (.con (.int 1)))))
  (.cons (.asg (.tp (.cons (.sb (.var 2) (.con (.str "word"))) (.cons (.sb (.var 2) (.con (.str "time"))) (.cons (.sb (.var 2) (.con (.str "place"))) .nil)))) (.tup (.cons (.con (.str "tried")) (.cons (.ix (.var 0) (.con (.str "now"))) (.cons (.call "_law_real" (.cons (.var 0) (.cons (.ix (.var 2) (.con (.str "goal"))) .nil))) .nil)))))
  (.cons (.asg (.sb (.var 2) (.con (.str "many"))) (.bin .Add (.ix (.var 2) (.con (.str "many"))) (.con (.int 1))))
  (.cons (.exp (.bm (.ix (.var 0) (.con (.str "log"))) .append (.cons (.tup (.cons (.ix (.var 0) (.con (.str "now"))) (.cons (.ix (.var 1) (.con (.int 0))) (.cons (.con (.str "tried")) .nil)))) .nil)))
  (.cons (.ret (.tup (.cons (.ix (.var 1) (.con (.int 0))) (.cons (.bin .Add (.con (.str "m")) (.bi .str (.cons (.ix (.var 1) (.con (.int 0))) .nil))) (.cons (.ix (.var 2) (.con (.str "place"))) (.cons (.ix (.var 2) (.con (.str "key"))) (.cons (.ix (.var 2) (.con (.str "text"))) .nil)))))))
  .nil)))))))⟩
def f__law_tick : Fn := ⟨2, 5,
  (.cons (.fo (.nm 2) (.rng1 (.var 1)) (.cons (.asg (.sb (.var 0) (.con (.str "now"))) (.bin .Add (.ix (.var 0) (.con (.str "now"))) (.con (.int 1))))
    (.cons (.fo (.nm 3) (.rng2 (.con (.int 1)) (.bin .Add (.bi .len (.cons (.ix (.var 0) (.con (.str "calls"))) .nil)) (.con (.int 1)))) (.cons (.asg (.nm 4) (.ix (.ix (.var 0) (.con (.str "calls"))) (.bin .Sub (.var 3) (.con (.int 1)))))
      (.cons (.ife (.and (.cmp .Eq (.ix (.var 4) (.con (.str "word"))) (.con (.str "tried"))) (.cmp .Eq (.bin .Sub (.ix (.var 0) (.con (.str "now"))) (.ix (.var 4) (.con (.str "time")))) (.ix (.ix (.var 0) (.con (.str "rule"))) (.con (.int 4))))) (.cons (.exp (.call "_law_fail" (.cons (.var 0) (.cons (.var 3) .nil))))
        .nil) .nil)
      .nil)))
    .nil)))
  .nil)⟩
def f__law_hand : Fn := ⟨4, 7,
  (.cons (.asg (.nm 4) (.tup (.cons (.con (.str "refused")) (.cons (.con (.str "BadCall")) .nil))))
  (.cons (.ife (.not (.chn .LtE .LtE (.con (.int 1)) (.var 2) (.bi .len (.cons (.ix (.var 0) (.con (.str "calls"))) .nil)))) (.cons (.ret (.var 4))
    .nil) .nil)
  (.cons (.asg (.nm 5) (.ix (.ix (.var 0) (.con (.str "calls"))) (.bin .Sub (.var 2) (.con (.int 1)))))
  (.cons (.ife (.and (.cmp .Eq (.var 1) (.con (.str "change"))) (.cmp .NotIn (.var 3) (.ix (.var 0) (.con (.str "roads"))))) (.cons (.ret (.tup (.cons (.con (.str "refused")) (.cons (.con (.str "BadName")) .nil))))
    .nil) .nil)
  (.cons (.asg (.nm 6) (.bm (.dic (.cons (.con (.str "go on")) (.cons (.lst false (.cons (.con (.str "put by")) .nil)) (.cons (.con (.str "drop")) (.cons (.lst false (.cons (.con (.str "waits")) (.cons (.con (.str "put by")) .nil))) (.cons (.con (.str "change")) (.cons (.lst false (.cons (.con (.str "waits")) (.cons (.con (.str "put by")) .nil))) .nil))))))) .get (.cons (.var 1) (.cons (.lst false (.cons (.con (.str "tried")) .nil)) .nil))))
  (.cons (.ife (.cmp .NotIn (.ix (.var 5) (.con (.str "word"))) (.var 6)) (.cons (.ret (.var 4))
    .nil) .nil)
  (.cons (.ife (.cmp .Eq (.var 1) (.con (.str "change"))) (.cons (.asg (.sb (.var 5) (.con (.str "goal"))) (.var 3))
    .nil) (.cons (.ife (.cmp .Eq (.var 1) (.con (.str "later"))) (.cons (.exp (.call "_law_fail" (.cons (.var 0) (.cons (.var 2) .nil))))
      .nil) (.cons (.asg (.sb (.var 5) (.con (.str "word"))) (.ix (.dic (.cons (.con (.str "go on")) (.cons (.con (.str "waits")) (.cons (.con (.str "drop")) (.cons (.con (.str "gone")) (.cons (.con (.str "good")) (.cons (.con (.str "done")) (.cons (.con (.str "never")) (.cons (.con (.str "put by")) .nil))))))))) (.var 1)))
      (.cons (.exp (.bm (.ix (.var 0) (.con (.str "log"))) .append (.cons (.tup (.cons (.ix (.var 0) (.con (.str "now"))) (.cons (.var 2) (.cons (.ite (.cmp .Eq (.var 1) (.con (.str "go on"))) (.con (.str "sent")) (.ix (.var 5) (.con (.str "word")))) .nil)))) .nil)))
      (.cons (.ife (.cmp .Eq (.var 1) (.con (.str "go on"))) (.cons (.asg (.tp (.cons (.sb (.var 5) (.con (.str "fails"))) (.cons (.sb (.var 5) (.con (.str "time"))) .nil))) (.tup (.cons (.con (.int 0)) (.cons (.ix (.var 0) (.con (.str "now"))) .nil))))
        .nil) .nil)
      .nil))))
    .nil))
  (.cons (.ret (.con .non))
  .nil))))))))⟩
def f__law_lead : Fn := ⟨3, 4,
  (.cons (.ife (.or (.cmp .NotIn (.var 1) (.ix (.var 0) (.con (.str "roads")))) (.cmp .NotIn (.var 2) (.ix (.var 0) (.con (.str "roads"))))) (.cons (.ret (.tup (.cons (.con (.str "refused")) (.cons (.con (.str "BadName")) .nil))))
    .nil) .nil)
  (.cons (.asg (.nm 3) (.var 2))
  (.cons (.wh (.and (.cmp .NotEq (.var 1) (.var 2)) (.and (.cmp .NotEq (.var 3) (.var 1)) (.cmp .NotEq (.ix (.ix (.var 0) (.con (.str "roads"))) (.var 3)) (.var 3)))) (.cons (.asg (.nm 3) (.ix (.ix (.var 0) (.con (.str "roads"))) (.var 3)))
    .nil))
  (.cons (.ife (.and (.cmp .NotEq (.var 1) (.var 2)) (.cmp .Eq (.var 3) (.var 1))) (.cons (.ret (.tup (.cons (.con (.str "refused")) (.cons (.con (.str "BadName")) .nil))))
    .nil) .nil)
  (.cons (.asg (.sb (.ix (.var 0) (.con (.str "roads"))) (.var 1)) (.var 2))
  (.cons (.ret (.con .non))
  .nil))))))⟩
def f__law_deed : Fn := ⟨2, 13,
  (.cons (.asg (.nm 2) (.bin .FloorDiv (.var 0) (.con (.int 64))))
  (.cons (.asg (.nm 3) (.lst false (.cons (.con (.str "home")) (.cons (.con (.str "out")) (.cons (.con (.str "x")) (.cons (.con (.str "yy")) (.cons (.con (.str "far")) (.cons (.con (.str "six")) .nil))))))))
  (.cons (.asg (.nm 4) (.bin .Add (.con (.int 1)) (.bin .Mod (.var 2) (.bin .Add (.bi .len (.cons (.ix (.var 1) (.con (.str "calls"))) .nil)) (.con (.int 1))))))
  (.cons (.asg (.nm 5) (.comp false (.bin .Add (.var 10) (.con (.int 1))) (.tp (.cons (.nm 10) (.cons (.nm 11) .nil))) (.enu (.ix (.var 1) (.con (.str "calls")))) (.cons (.cmp .In (.ix (.var 11) (.con (.str "word"))) (.tup (.cons (.con (.str "tried")) (.cons (.con (.str "put by")) .nil)))) .nil) [12, 10, 11]))
  (.cons (.ife (.and (.cmp .NotEq (.var 5) (.lst false .nil)) (.cmp .Gt (.bin .Mod (.bin .FloorDiv (.var 2) (.con (.int 64))) (.con (.int 4))) (.con (.int 0)))) (.cons (.asg (.nm 4) (.ix (.var 5) (.bin .Mod (.bin .FloorDiv (.var 2) (.con (.int 256))) (.bi .len (.cons (.var 5) .nil)))))
    .nil) .nil)
  (.cons (.asg (.nm 6) (.ix (.var 3) (.bin .Mod (.bin .FloorDiv (.var 2) (.con (.int 1024))) (.con (.int 6)))))
  (.cons (.asg (.nm 7) (.bin .Mult (.ix (.con (.str "ab ~Z")) (.bin .Mod (.bin .FloorDiv (.var 2) (.con (.int 8192))) (.con (.int 5)))) (.bin .Mod (.bin .FloorDiv (.var 2) (.bin .Pow (.con (.int 2)) (.con (.int 16)))) (.ix (.lst false (.cons (.con (.int 4)) (.cons (.con (.int 21)) .nil))) (.bin .Mod (.bin .FloorDiv (.var 2) (.bin .Pow (.con (.int 2)) (.con (.int 20)))) (.con (.int 2)))))))
  (.cons (.asg (.nm 8) (.bin .Mod (.var 0) (.con (.int 16))))
  (.cons (.ife (.cmp .Lt (.var 8) (.con (.int 4))) (.cons (.asg (.nm 9) (.ix (.lst false (.cons (.con (.str "k")) (.cons (.con (.str "key")) (.cons (.con (.str "z")) (.cons (.call "_law_any_name" (.cons (.bin .FloorDiv (.var 2) (.bin .Pow (.con (.int 2)) (.con (.int 24)))) (.cons (.con (.int 4)) .nil))) .nil))))) (.bin .Mod (.bin .FloorDiv (.var 2) (.bin .Pow (.con (.int 2)) (.con (.int 22)))) (.con (.int 4)))))
    (.cons (.ret (.tup (.cons (.con (.str "send")) (.cons (.var 9) (.cons (.var 6) (.cons (.ix (.lst false (.cons (.var 7) (.cons (.call "_law_any_text" (.cons (.bin .FloorDiv (.var 2) (.bin .Pow (.con (.int 2)) (.con (.int 30)))) (.cons (.con (.int 20)) .nil))) .nil))) (.bin .Mod (.bin .FloorDiv (.var 2) (.bin .Pow (.con (.int 2)) (.con (.int 26)))) (.con (.int 2)))) .nil))))))
    .nil)) .nil)
  (.cons (.ife (.cmp .Lt (.var 8) (.con (.int 8))) (.cons (.ret (.tup (.cons (.con (.str "try")) .nil)))
    .nil) .nil)
  (.cons (.ife (.cmp .Lt (.var 8) (.con (.int 11))) (.cons (.ret (.tup (.cons (.ix (.lst false (.cons (.con (.str "good")) (.cons (.con (.str "later")) (.cons (.con (.str "never")) (.cons (.con (.str "later")) (.cons (.con (.str "good")) .nil)))))) (.bin .Mod (.bin .FloorDiv (.var 2) (.bin .Pow (.con (.int 2)) (.con (.int 22)))) (.con (.int 5)))) (.cons (.var 4) (.cons (.var 6) .nil)))))
    .nil) .nil)
  (.cons (.ife (.cmp .Eq (.var 8) (.con (.int 11))) (.cons (.ret (.tup (.cons (.con (.str "tick")) (.cons (.ix (.lst false (.cons (.con (.int 0)) (.cons (.con (.int 1)) (.cons (.con (.int 1)) (.cons (.con (.int 2)) (.cons (.con (.int 3)) (.cons (.con (.int 5)) (.cons (.con (.int 10)) (.cons (.con (.int 100)) .nil))))))))) (.bin .Mod (.bin .FloorDiv (.var 2) (.bin .Pow (.con (.int 2)) (.con (.int 22)))) (.con (.int 8)))) .nil))))
    .nil) .nil)
  (.cons (.ife (.cmp .Eq (.var 8) (.con (.int 12))) (.cons (.ret (.tup (.cons (.con (.str "lead")) (.cons (.var 6) (.cons (.ix (.var 3) (.bin .Mod (.bin .FloorDiv (.var 2) (.bin .Pow (.con (.int 2)) (.con (.int 24)))) (.con (.int 6)))) .nil)))))
    .nil) .nil)
  (.cons (.ife (.cmp .Eq (.var 8) (.con (.int 13))) (.cons (.ret (.tup (.cons (.con (.str "add")) (.cons (.var 6) .nil))))
    .nil) .nil)
  (.cons (.ret (.tup (.cons (.ix (.lst false (.cons (.con (.str "go on")) (.cons (.con (.str "drop")) (.cons (.con (.str "change")) (.cons (.con (.str "go on")) (.cons (.con (.str "go on")) .nil)))))) (.bin .Mod (.bin .FloorDiv (.var 2) (.bin .Pow (.con (.int 2)) (.con (.int 22)))) (.con (.int 5)))) (.cons (.var 4) (.cons (.var 6) .nil)))))
  .nil)))))))))))))))⟩
def f__law_own_does : Fn := ⟨2, 3,
  (.cons (.asg (.nm 2) (.ix (.var 1) (.con (.int 0))))
  (.cons (.ife (.cmp .Eq (.var 2) (.con (.str "send"))) (.cons (.ret (.call "_law_send" (.cons (.var 0) (.cons (.ix (.var 1) (.con (.int 1))) (.cons (.ix (.var 1) (.con (.int 2))) (.cons (.ix (.var 1) (.con (.int 3))) .nil))))))
    .nil) .nil)
  (.cons (.ife (.cmp .Eq (.var 2) (.con (.str "try"))) (.cons (.ret (.call "_law_try" (.cons (.var 0) .nil)))
    .nil) .nil)
  (.cons (.ife (.cmp .Eq (.var 2) (.con (.str "tick"))) (.cons (.ret (.call "_law_tick" (.cons (.var 0) (.cons (.ix (.var 1) (.con (.int 1))) .nil))))
    .nil) .nil)
  (.cons (.ife (.cmp .Eq (.var 2) (.con (.str "lead"))) (.cons (.ret (.call "_law_lead" (.cons (.var 0) (.cons (.ix (.var 1) (.con (.int 1))) (.cons (.ix (.var 1) (.con (.int 2))) .nil)))))
    .nil) .nil)
  (.cons (.ife (.cmp .NotEq (.var 2) (.con (.str "add"))) (.cons (.ret (.call "_law_hand" (.cons (.var 0) (.cons (.var 2) (.cons (.ix (.var 1) (.con (.int 1))) (.cons (.ix (.var 1) (.con (.int 2))) .nil))))))
    .nil) .nil)
  (.cons (.ife (.or (.cmp .In (.ix (.var 1) (.con (.int 1))) (.ix (.var 0) (.con (.str "roads")))) (.cmp .Eq (.bi .len (.cons (.ix (.var 0) (.con (.str "roads"))) .nil)) (.con (.int 5)))) (.cons (.ret (.tup (.cons (.con (.str "refused")) (.cons (.con (.str "BadName")) .nil))))
    .nil) .nil)
  (.cons (.asg (.sb (.ix (.var 0) (.con (.str "roads"))) (.ix (.var 1) (.con (.int 1)))) (.ix (.var 1) (.con (.int 1))))
  (.cons (.ret (.con .non))
  .nil)))))))))⟩
def f__law_does : Fn := ⟨2, 3,
  (.cons (.asg (.nm 2) (.ix (.var 1) (.con (.int 0))))
  (.cons (.ife (.cmp .Eq (.var 2) (.con (.str "send"))) (.cons (.ret (.told (.meth (.var 0) "send" (.cons (.ix (.var 1) (.con (.int 1))) (.cons (.ix (.var 1) (.con (.int 2))) (.cons (.ix (.var 1) (.con (.int 3))) .nil))))))
    .nil) .nil)
  (.cons (.ife (.cmp .Eq (.var 2) (.con (.str "try"))) (.cons (.ret (.told (.meth (.var 0) "attempt" .nil)))
    .nil) .nil)
  (.cons (.ife (.cmp .Eq (.var 2) (.con (.str "tick"))) (.cons (.ret (.told (.meth (.var 0) "tick" (.cons (.ix (.var 1) (.con (.int 1))) .nil))))
    .nil) .nil)
  (.cons (.ife (.cmp .Eq (.var 2) (.con (.str "lead"))) (.cons (.ret (.told (.meth (.var 0) "lead" (.cons (.ix (.var 1) (.con (.int 1))) (.cons (.ix (.var 1) (.con (.int 2))) .nil)))))
    .nil) .nil)
  (.cons (.ife (.cmp .Eq (.var 2) (.con (.str "add"))) (.cons (.ret (.told (.meth (.var 0) "add_address" (.cons (.ix (.var 1) (.con (.int 1))) .nil))))
    .nil) .nil)
  (.cons (.ife (.cmp .Eq (.var 2) (.con (.str "go on"))) (.cons (.ret (.told (.meth (.var 0) "go_on" (.cons (.ix (.var 1) (.con (.int 1))) .nil))))
    .nil) .nil)
  (.cons (.ife (.cmp .Eq (.var 2) (.con (.str "drop"))) (.cons (.ret (.told (.meth (.var 0) "drop" (.cons (.ix (.var 1) (.con (.int 1))) .nil))))
    .nil) .nil)
  (.cons (.ife (.cmp .Eq (.var 2) (.con (.str "change"))) (.cons (.ret (.told (.meth (.var 0) "change" (.cons (.ix (.var 1) (.con (.int 1))) (.cons (.ix (.var 1) (.con (.int 2))) .nil)))))
    .nil) .nil)
  (.cons (.ret (.told (.meth (.var 0) "answer" (.cons (.ix (.var 1) (.con (.int 1))) (.cons (.var 2) .nil)))))
  .nil))))))))))⟩
def f__law_like : Fn := ⟨2, 7,
  (.cons (.ife (.or (.cmp .NotEq (.meth (.var 0) "now" .nil) (.ix (.var 1) (.con (.str "now")))) (.or (.cmp .NotEq (.meth (.var 0) "log" .nil) (.ix (.var 1) (.con (.str "log")))) (.cmp .NotEq (.meth (.var 0) "due" .nil) (.call "_law_due" (.cons (.var 1) .nil))))) (.cons (.ret (.con (.bl false)))
    .nil) .nil)
  (.cons (.ife (.cmp .NotEq (.meth (.var 0) "numbers" .nil) (.lrg (.con (.int 1)) (.bin .Add (.bi .len (.cons (.ix (.var 1) (.con (.str "calls"))) .nil)) (.con (.int 1))))) (.cons (.ret (.con (.bl false)))
    .nil) .nil)
  (.cons (.fo (.tp (.cons (.nm 2) (.cons (.nm 3) .nil))) (.enu (.ix (.var 1) (.con (.str "calls")))) (.cons (.ife (.or (.cmp .NotEq (.meth (.var 0) "state" (.cons (.bin .Add (.var 2) (.con (.int 1))) .nil)) (.ix (.var 3) (.con (.str "word")))) (.cmp .NotEq (.meth (.var 0) "tries" (.cons (.bin .Add (.var 2) (.con (.int 1))) .nil)) (.ix (.var 3) (.con (.str "many"))))) (.cons (.ret (.con (.bl false)))
      .nil) .nil)
    (.cons (.asg (.nm 4) (.bm (.dic (.cons (.con (.str "waits")) (.cons (.ix (.var 3) (.con (.str "time"))) (.cons (.con (.str "tried")) (.cons (.bin .Add (.ix (.var 3) (.con (.str "time"))) (.ix (.ix (.var 1) (.con (.str "rule"))) (.con (.int 4)))) .nil))))) .get (.cons (.ix (.var 3) (.con (.str "word"))) (.cons (.con .non) .nil))))
    (.cons (.ife (.cmp .NotEq (.meth (.var 0) "time_of" (.cons (.bin .Add (.var 2) (.con (.int 1))) .nil)) (.var 4)) (.cons (.ret (.con (.bl false)))
      .nil) .nil)
    .nil))))
  (.cons (.ret (.bi .all (.cons (.comp false (.cmp .Eq (.meth (.var 0) "end_of" (.cons (.var 5) .nil)) (.call "_law_real" (.cons (.var 1) (.cons (.var 5) .nil)))) (.nm 5) (.seq (.ix (.var 1) (.con (.str "roads")))) .nil [6, 5]) .nil)))
  .nil))))⟩
def f_law : Fn := ⟨1, 9,
  (.cons (.fo (.nm 1) (.rng1 (.bi .max (.cons (.con (.int 1)) (.cons (.bi .min (.cons (.con (.int 2)) (.cons (.bi .len (.cons (.var 0) .nil)) .nil))) .nil)))) (.cons (.asg (.nm 2) (.call "_law_drawn" (.cons (.call "_law_cell" (.cons (.var 0) (.cons (.var 1) .nil))) (.cons (.var 1) .nil))))
    (.cons (.asg (.nm 3) (.call "_law_rule" (.cons (.bin .FloorDiv (.var 2) (.con (.int 64))) .nil)))
    (.cons (.asg (.tp (.cons (.nm 6) (.cons (.nm 7) .nil))) (.tup (.cons (.make "Caller" (.cons (.var 3) .nil)) (.cons (.call "_law_own" (.cons (.var 3) .nil)) .nil))))
    (.cons (.fo (.nm 4) (.seq (.sl (.lst false (.cons (.con (.str "home")) (.cons (.con (.str "out")) (.cons (.con (.str "x")) (.cons (.con (.str "yy")) .nil))))) .nil (.cons (.bin .Mod (.bin .FloorDiv (.var 2) (.con (.int 8))) (.con (.int 5))) .nil))) (.cons (.exp (.meth (.var 6) "add_address" (.cons (.var 4) .nil)))
      (.cons (.asg (.sb (.ix (.var 7) (.con (.str "roads"))) (.var 4)) (.var 4))
      .nil)))
    (.cons (.fo (.nm 5) (.rng1 (.bin .Add (.con (.int 20)) (.bin .Mod (.var 2) (.con (.int 71))))) (.cons (.asg (.nm 8) (.call "_law_deed" (.cons (.call "_law_drawn" (.cons (.var 2) (.cons (.bin .Add (.con (.int 10)) (.var 5)) .nil))) (.cons (.var 7) .nil))))
      (.cons (.ife (.or (.cmp .NotEq (.call "_law_does" (.cons (.var 6) (.cons (.var 8) .nil))) (.call "_law_own_does" (.cons (.var 7) (.cons (.var 8) .nil)))) (.not (.call "_law_like" (.cons (.var 6) (.cons (.var 7) .nil))))) (.cons (.ret (.con (.bl false)))
        .nil) .nil)
      .nil)))
    (.cons (.ife (.and (.cmp .Eq (.bin .Mod (.bin .FloorDiv (.var 2) (.con (.int 128))) (.con (.int 4))) (.con (.int 0))) (.cmp .NotEq (.ix (.var 7) (.con (.str "roads"))) (.dic .nil))) (.cons (.fo (.nm 5) (.rng1 (.con (.int 31))) (.cons (.asg (.nm 8) (.tup (.cons (.con (.str "send")) (.cons (.con (.str "k")) (.cons (.ix (.bi .sorted (.cons (.ix (.var 7) (.con (.str "roads"))) .nil)) (.con (.int 0))) (.cons (.con (.str "")) .nil))))))
        (.cons (.ife (.cmp .NotEq (.call "_law_does" (.cons (.var 6) (.cons (.var 8) .nil))) (.call "_law_own_does" (.cons (.var 7) (.cons (.var 8) .nil)))) (.cons (.ret (.con (.bl false)))
          .nil) .nil)
        .nil)))
      .nil) .nil)
    .nil)))))))
  (.cons (.ret (.con (.bl true)))
  .nil))⟩
def fnsp0 : List (Str × Fn) := [("is_name", f_is_name), ("need_name", f_need_name), ("is_text", f_is_text), ("need_text", f_need_text), ("is_count", f_is_count), ("need_rule", f_need_rule), ("wait_of", f_wait_of), ("Call.__init__", f_Call___init__), ("Caller.__init__", f_Caller___init__), ("Caller.now", f_Caller_now), ("Caller.say", f_Caller_say), ("Caller.log", f_Caller_log), ("Caller.need_address", f_Caller_need_address), ("Caller.add_address", f_Caller_add_address), ("Caller.road", f_Caller_road), ("Caller.end_of", f_Caller_end_of), ("Caller.lead", f_Caller_lead), ("Caller.call", f_Caller_call), ("Caller.numbers", f_Caller_numbers), ("Caller.send", f_Caller_send), ("Caller.state", f_Caller_state), ("Caller.tries", f_Caller_tries), ("Caller.time_of", f_Caller_time_of), ("Caller.is_first", f_Caller_is_first), ("Caller.busy", f_Caller_busy), ("Caller.due", f_Caller_due), ("Caller.begin", f_Caller_begin), ("Caller.attempt", f_Caller_attempt), ("Caller.fail", f_Caller_fail), ("Caller.answer", f_Caller_answer)]
def fnsp1 : List (Str × Fn) := [("Caller.tick", f_Caller_tick), ("Caller.go_on", f_Caller_go_on), ("Caller.drop", f_Caller_drop), ("Caller.change", f_Caller_change), ("_law_cell", f__law_cell), ("_law_drawn", f__law_drawn), ("_law_rule", f__law_rule), ("_law_wait", f__law_wait), ("_law_any_name", f__law_any_name), ("_law_any_text", f__law_any_text), ("_law_own", f__law_own), ("_law_real", f__law_real), ("_law_may", f__law_may), ("_law_due", f__law_due), ("_law_fail", f__law_fail), ("_law_send", f__law_send), ("_law_try", f__law_try), ("_law_tick", f__law_tick), ("_law_hand", f__law_hand), ("_law_lead", f__law_lead), ("_law_deed", f__law_deed), ("_law_own_does", f__law_own_does), ("_law_does", f__law_does), ("_law_like", f__law_like), ("law", f_law)]
def fns : List (Str × Fn) := fnsp0 ++ fnsp1
def cls : List (Str × ClsI) := [("Call", ⟨some "Call.__init__", [], ["key", "goal", "text", "word", "fails", "time", "many", "place"]⟩), ("Caller", ⟨some "Caller.__init__", [("now", "Caller.now"), ("say", "Caller.say"), ("log", "Caller.log"), ("need_address", "Caller.need_address"), ("add_address", "Caller.add_address"), ("road", "Caller.road"), ("end_of", "Caller.end_of"), ("lead", "Caller.lead"), ("call", "Caller.call"), ("numbers", "Caller.numbers"), ("send", "Caller.send"), ("state", "Caller.state"), ("tries", "Caller.tries"), ("time_of", "Caller.time_of"), ("is_first", "Caller.is_first"), ("busy", "Caller.busy"), ("due", "Caller.due"), ("begin", "Caller.begin"), ("attempt", "Caller.attempt"), ("fail", "Caller.fail"), ("answer", "Caller.answer"), ("tick", "Caller.tick"), ("go_on", "Caller.go_on"), ("drop", "Caller.drop"), ("change", "Caller.change")], ["rule", "clock", "roads", "calls", "rows"]⟩)]
def told : List Str := ["BadRule", "BadName", "BadText", "BadTime", "BadCall", "Full"]
def Pg : Prog := ⟨fns, cls, told⟩
theorem c_is_name (n : Nat) (as : List A) (h : AH) : callF Pg (n + 1) "is_name" as h = runFn Pg (callF Pg n) f_is_name as h := MT.callF_at (by kernel_rfl) as h
theorem c_need_name (n : Nat) (as : List A) (h : AH) : callF Pg (n + 1) "need_name" as h = runFn Pg (callF Pg n) f_need_name as h := MT.callF_at (by kernel_rfl) as h
theorem c_is_text (n : Nat) (as : List A) (h : AH) : callF Pg (n + 1) "is_text" as h = runFn Pg (callF Pg n) f_is_text as h := MT.callF_at (by kernel_rfl) as h
theorem c_need_text (n : Nat) (as : List A) (h : AH) : callF Pg (n + 1) "need_text" as h = runFn Pg (callF Pg n) f_need_text as h := MT.callF_at (by kernel_rfl) as h
theorem c_is_count (n : Nat) (as : List A) (h : AH) : callF Pg (n + 1) "is_count" as h = runFn Pg (callF Pg n) f_is_count as h := MT.callF_at (by kernel_rfl) as h
theorem c_need_rule (n : Nat) (as : List A) (h : AH) : callF Pg (n + 1) "need_rule" as h = runFn Pg (callF Pg n) f_need_rule as h := MT.callF_at (by kernel_rfl) as h
theorem c_wait_of (n : Nat) (as : List A) (h : AH) : callF Pg (n + 1) "wait_of" as h = runFn Pg (callF Pg n) f_wait_of as h := MT.callF_at (by kernel_rfl) as h
theorem c_Call___init__ (n : Nat) (as : List A) (h : AH) : callF Pg (n + 1) "Call.__init__" as h = runFn Pg (callF Pg n) f_Call___init__ as h := MT.callF_at (by kernel_rfl) as h
theorem c_Caller___init__ (n : Nat) (as : List A) (h : AH) : callF Pg (n + 1) "Caller.__init__" as h = runFn Pg (callF Pg n) f_Caller___init__ as h := MT.callF_at (by kernel_rfl) as h
theorem c_Caller_now (n : Nat) (as : List A) (h : AH) : callF Pg (n + 1) "Caller.now" as h = runFn Pg (callF Pg n) f_Caller_now as h := MT.callF_at (by kernel_rfl) as h
theorem c_Caller_say (n : Nat) (as : List A) (h : AH) : callF Pg (n + 1) "Caller.say" as h = runFn Pg (callF Pg n) f_Caller_say as h := MT.callF_at (by kernel_rfl) as h
theorem c_Caller_log (n : Nat) (as : List A) (h : AH) : callF Pg (n + 1) "Caller.log" as h = runFn Pg (callF Pg n) f_Caller_log as h := MT.callF_at (by kernel_rfl) as h
theorem c_Caller_need_address (n : Nat) (as : List A) (h : AH) : callF Pg (n + 1) "Caller.need_address" as h = runFn Pg (callF Pg n) f_Caller_need_address as h := MT.callF_at (by kernel_rfl) as h
theorem c_Caller_add_address (n : Nat) (as : List A) (h : AH) : callF Pg (n + 1) "Caller.add_address" as h = runFn Pg (callF Pg n) f_Caller_add_address as h := MT.callF_at (by kernel_rfl) as h
theorem c_Caller_road (n : Nat) (as : List A) (h : AH) : callF Pg (n + 1) "Caller.road" as h = runFn Pg (callF Pg n) f_Caller_road as h := MT.callF_at (by kernel_rfl) as h
theorem c_Caller_end_of (n : Nat) (as : List A) (h : AH) : callF Pg (n + 1) "Caller.end_of" as h = runFn Pg (callF Pg n) f_Caller_end_of as h := MT.callF_at (by kernel_rfl) as h
theorem c_Caller_lead (n : Nat) (as : List A) (h : AH) : callF Pg (n + 1) "Caller.lead" as h = runFn Pg (callF Pg n) f_Caller_lead as h := MT.callF_at (by kernel_rfl) as h
theorem c_Caller_call (n : Nat) (as : List A) (h : AH) : callF Pg (n + 1) "Caller.call" as h = runFn Pg (callF Pg n) f_Caller_call as h := MT.callF_at (by kernel_rfl) as h
theorem c_Caller_numbers (n : Nat) (as : List A) (h : AH) : callF Pg (n + 1) "Caller.numbers" as h = runFn Pg (callF Pg n) f_Caller_numbers as h := MT.callF_at (by kernel_rfl) as h
theorem c_Caller_send (n : Nat) (as : List A) (h : AH) : callF Pg (n + 1) "Caller.send" as h = runFn Pg (callF Pg n) f_Caller_send as h := MT.callF_at (by kernel_rfl) as h
theorem c_Caller_state (n : Nat) (as : List A) (h : AH) : callF Pg (n + 1) "Caller.state" as h = runFn Pg (callF Pg n) f_Caller_state as h := MT.callF_at (by kernel_rfl) as h
theorem c_Caller_tries (n : Nat) (as : List A) (h : AH) : callF Pg (n + 1) "Caller.tries" as h = runFn Pg (callF Pg n) f_Caller_tries as h := MT.callF_at (by kernel_rfl) as h
theorem c_Caller_time_of (n : Nat) (as : List A) (h : AH) : callF Pg (n + 1) "Caller.time_of" as h = runFn Pg (callF Pg n) f_Caller_time_of as h := MT.callF_at (by kernel_rfl) as h
theorem c_Caller_is_first (n : Nat) (as : List A) (h : AH) : callF Pg (n + 1) "Caller.is_first" as h = runFn Pg (callF Pg n) f_Caller_is_first as h := MT.callF_at (by kernel_rfl) as h
theorem c_Caller_busy (n : Nat) (as : List A) (h : AH) : callF Pg (n + 1) "Caller.busy" as h = runFn Pg (callF Pg n) f_Caller_busy as h := MT.callF_at (by kernel_rfl) as h
theorem c_Caller_due (n : Nat) (as : List A) (h : AH) : callF Pg (n + 1) "Caller.due" as h = runFn Pg (callF Pg n) f_Caller_due as h := MT.callF_at (by kernel_rfl) as h
theorem c_Caller_begin (n : Nat) (as : List A) (h : AH) : callF Pg (n + 1) "Caller.begin" as h = runFn Pg (callF Pg n) f_Caller_begin as h := MT.callF_at (by kernel_rfl) as h
theorem c_Caller_attempt (n : Nat) (as : List A) (h : AH) : callF Pg (n + 1) "Caller.attempt" as h = runFn Pg (callF Pg n) f_Caller_attempt as h := MT.callF_at (by kernel_rfl) as h
theorem c_Caller_fail (n : Nat) (as : List A) (h : AH) : callF Pg (n + 1) "Caller.fail" as h = runFn Pg (callF Pg n) f_Caller_fail as h := MT.callF_at (by kernel_rfl) as h
theorem c_Caller_answer (n : Nat) (as : List A) (h : AH) : callF Pg (n + 1) "Caller.answer" as h = runFn Pg (callF Pg n) f_Caller_answer as h := MT.callF_at (by kernel_rfl) as h
theorem c_Caller_tick (n : Nat) (as : List A) (h : AH) : callF Pg (n + 1) "Caller.tick" as h = runFn Pg (callF Pg n) f_Caller_tick as h := MT.callF_at (by kernel_rfl) as h
theorem c_Caller_go_on (n : Nat) (as : List A) (h : AH) : callF Pg (n + 1) "Caller.go_on" as h = runFn Pg (callF Pg n) f_Caller_go_on as h := MT.callF_at (by kernel_rfl) as h
theorem c_Caller_drop (n : Nat) (as : List A) (h : AH) : callF Pg (n + 1) "Caller.drop" as h = runFn Pg (callF Pg n) f_Caller_drop as h := MT.callF_at (by kernel_rfl) as h
theorem c_Caller_change (n : Nat) (as : List A) (h : AH) : callF Pg (n + 1) "Caller.change" as h = runFn Pg (callF Pg n) f_Caller_change as h := MT.callF_at (by kernel_rfl) as h
theorem c__law_cell (n : Nat) (as : List A) (h : AH) : callF Pg (n + 1) "_law_cell" as h = runFn Pg (callF Pg n) f__law_cell as h := MT.callF_at (by kernel_rfl) as h
theorem c__law_drawn (n : Nat) (as : List A) (h : AH) : callF Pg (n + 1) "_law_drawn" as h = runFn Pg (callF Pg n) f__law_drawn as h := MT.callF_at (by kernel_rfl) as h
theorem c__law_rule (n : Nat) (as : List A) (h : AH) : callF Pg (n + 1) "_law_rule" as h = runFn Pg (callF Pg n) f__law_rule as h := MT.callF_at (by kernel_rfl) as h
theorem c__law_wait (n : Nat) (as : List A) (h : AH) : callF Pg (n + 1) "_law_wait" as h = runFn Pg (callF Pg n) f__law_wait as h := MT.callF_at (by kernel_rfl) as h
theorem c__law_any_name (n : Nat) (as : List A) (h : AH) : callF Pg (n + 1) "_law_any_name" as h = runFn Pg (callF Pg n) f__law_any_name as h := MT.callF_at (by kernel_rfl) as h
theorem c__law_any_text (n : Nat) (as : List A) (h : AH) : callF Pg (n + 1) "_law_any_text" as h = runFn Pg (callF Pg n) f__law_any_text as h := MT.callF_at (by kernel_rfl) as h
theorem c__law_own (n : Nat) (as : List A) (h : AH) : callF Pg (n + 1) "_law_own" as h = runFn Pg (callF Pg n) f__law_own as h := MT.callF_at (by kernel_rfl) as h
theorem c__law_real (n : Nat) (as : List A) (h : AH) : callF Pg (n + 1) "_law_real" as h = runFn Pg (callF Pg n) f__law_real as h := MT.callF_at (by kernel_rfl) as h
theorem c__law_may (n : Nat) (as : List A) (h : AH) : callF Pg (n + 1) "_law_may" as h = runFn Pg (callF Pg n) f__law_may as h := MT.callF_at (by kernel_rfl) as h
theorem c__law_due (n : Nat) (as : List A) (h : AH) : callF Pg (n + 1) "_law_due" as h = runFn Pg (callF Pg n) f__law_due as h := MT.callF_at (by kernel_rfl) as h
theorem c__law_fail (n : Nat) (as : List A) (h : AH) : callF Pg (n + 1) "_law_fail" as h = runFn Pg (callF Pg n) f__law_fail as h := MT.callF_at (by kernel_rfl) as h
theorem c__law_send (n : Nat) (as : List A) (h : AH) : callF Pg (n + 1) "_law_send" as h = runFn Pg (callF Pg n) f__law_send as h := MT.callF_at (by kernel_rfl) as h
theorem c__law_try (n : Nat) (as : List A) (h : AH) : callF Pg (n + 1) "_law_try" as h = runFn Pg (callF Pg n) f__law_try as h := MT.callF_at (by kernel_rfl) as h
theorem c__law_tick (n : Nat) (as : List A) (h : AH) : callF Pg (n + 1) "_law_tick" as h = runFn Pg (callF Pg n) f__law_tick as h := MT.callF_at (by kernel_rfl) as h
theorem c__law_hand (n : Nat) (as : List A) (h : AH) : callF Pg (n + 1) "_law_hand" as h = runFn Pg (callF Pg n) f__law_hand as h := MT.callF_at (by kernel_rfl) as h
theorem c__law_lead (n : Nat) (as : List A) (h : AH) : callF Pg (n + 1) "_law_lead" as h = runFn Pg (callF Pg n) f__law_lead as h := MT.callF_at (by kernel_rfl) as h
theorem c__law_deed (n : Nat) (as : List A) (h : AH) : callF Pg (n + 1) "_law_deed" as h = runFn Pg (callF Pg n) f__law_deed as h := MT.callF_at (by kernel_rfl) as h
theorem c__law_own_does (n : Nat) (as : List A) (h : AH) : callF Pg (n + 1) "_law_own_does" as h = runFn Pg (callF Pg n) f__law_own_does as h := MT.callF_at (by kernel_rfl) as h
theorem c__law_does (n : Nat) (as : List A) (h : AH) : callF Pg (n + 1) "_law_does" as h = runFn Pg (callF Pg n) f__law_does as h := MT.callF_at (by kernel_rfl) as h
theorem c__law_like (n : Nat) (as : List A) (h : AH) : callF Pg (n + 1) "_law_like" as h = runFn Pg (callF Pg n) f__law_like as h := MT.callF_at (by kernel_rfl) as h
theorem c_law (n : Nat) (as : List A) (h : AH) : callF Pg (n + 1) "law" as h = runFn Pg (callF Pg n) f_law as h := MT.callF_at (by kernel_rfl) as h
end Lk20

namespace Lk20
open PySem PySem.Spec PyProof.Rows L2 MI
theorem ok0 : DOk gl al d0 f_is_name := ⟨by kernel_rfl, rfl, rfl, by kernel_rfl, fun _ _ _ _ _ _ us hl => match us, hl with | [_], _ => rfl⟩
theorem ok1 : DOk gl al d1 f_need_name := ⟨by kernel_rfl, rfl, rfl, by kernel_rfl, fun _ _ _ _ _ _ us hl => match us, hl with | [_], _ => rfl⟩
theorem ok2 : DOk gl al d2 f_is_text := ⟨by kernel_rfl, rfl, rfl, by kernel_rfl, fun _ _ _ _ _ _ us hl => match us, hl with | [_], _ => rfl⟩
theorem ok3 : DOk gl al d3 f_need_text := ⟨by kernel_rfl, rfl, rfl, by kernel_rfl, fun _ _ _ _ _ _ us hl => match us, hl with | [_], _ => rfl⟩
theorem ok4 : DOk gl al d4 f_is_count := ⟨by kernel_rfl, rfl, rfl, by kernel_rfl, fun _ _ _ _ _ _ us hl => match us, hl with | [_, _, _], _ => rfl⟩
theorem ok5 : DOk gl al d5 f_need_rule := ⟨by kernel_rfl, rfl, rfl, by kernel_rfl, fun _ _ _ _ _ _ us hl => match us, hl with | [_], _ => rfl⟩
theorem ok6 : DOk gl al d6 f_wait_of := ⟨by kernel_rfl, rfl, rfl, by kernel_rfl, fun _ _ _ _ _ _ us hl => match us, hl with | [_, _], _ => rfl⟩
theorem ok7 : DOk gl al d7 f_Call___init__ := ⟨by kernel_rfl, rfl, rfl, by kernel_rfl, fun _ _ _ _ _ _ us hl => match us, hl with | [_, _, _, _, _], _ => rfl⟩
theorem ok8 : DOk gl al d8 f_Caller___init__ := ⟨by kernel_rfl, rfl, rfl, by kernel_rfl, fun _ _ _ _ _ _ us hl => match us, hl with | [_, _], _ => rfl⟩
theorem ok9 : DOk gl al d9 f_Caller_now := ⟨by kernel_rfl, rfl, rfl, by kernel_rfl, fun _ _ _ _ _ _ us hl => match us, hl with | [_], _ => rfl⟩
theorem ok10 : DOk gl al d10 f_Caller_say := ⟨by kernel_rfl, rfl, rfl, by kernel_rfl, fun _ _ _ _ _ _ us hl => match us, hl with | [_, _, _], _ => rfl⟩
theorem ok11 : DOk gl al d11 f_Caller_log := ⟨by kernel_rfl, rfl, rfl, by kernel_rfl, fun _ _ _ _ _ _ us hl => match us, hl with | [_], _ => rfl⟩
theorem ok12 : DOk gl al d12 f_Caller_need_address := ⟨by kernel_rfl, rfl, rfl, by kernel_rfl, fun _ _ _ _ _ _ us hl => match us, hl with | [_, _], _ => rfl⟩
theorem ok13 : DOk gl al d13 f_Caller_add_address := ⟨by kernel_rfl, rfl, rfl, by kernel_rfl, fun _ _ _ _ _ _ us hl => match us, hl with | [_, _], _ => rfl⟩
theorem ok14 : DOk gl al d14 f_Caller_road := ⟨by kernel_rfl, rfl, rfl, by kernel_rfl, fun _ _ _ _ _ _ us hl => match us, hl with | [_, _], _ => rfl⟩
theorem ok15 : DOk gl al d15 f_Caller_end_of := ⟨by kernel_rfl, rfl, rfl, by kernel_rfl, fun _ _ _ _ _ _ us hl => match us, hl with | [_, _], _ => rfl⟩
theorem ok16 : DOk gl al d16 f_Caller_lead := ⟨by kernel_rfl, rfl, rfl, by kernel_rfl, fun _ _ _ _ _ _ us hl => match us, hl with | [_, _, _], _ => rfl⟩
theorem ok17 : DOk gl al d17 f_Caller_call := ⟨by kernel_rfl, rfl, rfl, by kernel_rfl, fun _ _ _ _ _ _ us hl => match us, hl with | [_, _], _ => rfl⟩
theorem ok18 : DOk gl al d18 f_Caller_numbers := ⟨by kernel_rfl, rfl, rfl, by kernel_rfl, fun _ _ _ _ _ _ us hl => match us, hl with | [_], _ => rfl⟩
theorem ok19 : DOk gl al d19 f_Caller_send := ⟨by kernel_rfl, rfl, rfl, by kernel_rfl, fun _ _ _ _ _ _ us hl => match us, hl with | [_, _, _, _], _ => rfl⟩
theorem ok20 : DOk gl al d20 f_Caller_state := ⟨by kernel_rfl, rfl, rfl, by kernel_rfl, fun _ _ _ _ _ _ us hl => match us, hl with | [_, _], _ => rfl⟩
theorem ok21 : DOk gl al d21 f_Caller_tries := ⟨by kernel_rfl, rfl, rfl, by kernel_rfl, fun _ _ _ _ _ _ us hl => match us, hl with | [_, _], _ => rfl⟩
theorem ok22 : DOk gl al d22 f_Caller_time_of := ⟨by kernel_rfl, rfl, rfl, by kernel_rfl, fun _ _ _ _ _ _ us hl => match us, hl with | [_, _], _ => rfl⟩
theorem ok23 : DOk gl al d23 f_Caller_is_first := ⟨by kernel_rfl, rfl, rfl, by kernel_rfl, fun _ _ _ _ _ _ us hl => match us, hl with | [_, _], _ => rfl⟩
theorem ok24 : DOk gl al d24 f_Caller_busy := ⟨by kernel_rfl, rfl, rfl, by kernel_rfl, fun _ _ _ _ _ _ us hl => match us, hl with | [_, _], _ => rfl⟩
theorem ok25 : DOk gl al d25 f_Caller_due := ⟨by kernel_rfl, rfl, rfl, by kernel_rfl, fun _ _ _ _ _ _ us hl => match us, hl with | [_], _ => rfl⟩
theorem ok26 : DOk gl al d26 f_Caller_begin := ⟨by kernel_rfl, rfl, rfl, by kernel_rfl, fun _ _ _ _ _ _ us hl => match us, hl with | [_, _], _ => rfl⟩
theorem ok27 : DOk gl al d27 f_Caller_attempt := ⟨by kernel_rfl, rfl, rfl, by kernel_rfl, fun _ _ _ _ _ _ us hl => match us, hl with | [_], _ => rfl⟩
theorem ok28 : DOk gl al d28 f_Caller_fail := ⟨by kernel_rfl, rfl, rfl, by kernel_rfl, fun _ _ _ _ _ _ us hl => match us, hl with | [_, _], _ => rfl⟩
theorem ok29 : DOk gl al d29 f_Caller_answer := ⟨by kernel_rfl, rfl, rfl, by kernel_rfl, fun _ _ _ _ _ _ us hl => match us, hl with | [_, _, _], _ => rfl⟩
theorem ok30 : DOk gl al d30 f_Caller_tick := ⟨by kernel_rfl, rfl, rfl, by kernel_rfl, fun _ _ _ _ _ _ us hl => match us, hl with | [_, _], _ => rfl⟩
theorem ok31 : DOk gl al d31 f_Caller_go_on := ⟨by kernel_rfl, rfl, rfl, by kernel_rfl, fun _ _ _ _ _ _ us hl => match us, hl with | [_, _], _ => rfl⟩
theorem ok32 : DOk gl al d32 f_Caller_drop := ⟨by kernel_rfl, rfl, rfl, by kernel_rfl, fun _ _ _ _ _ _ us hl => match us, hl with | [_, _], _ => rfl⟩
theorem ok33 : DOk gl al d33 f_Caller_change := ⟨by kernel_rfl, rfl, rfl, by kernel_rfl, fun _ _ _ _ _ _ us hl => match us, hl with | [_, _, _], _ => rfl⟩
theorem ok34 : DOk gl al d34 f__law_cell := ⟨by kernel_rfl, rfl, rfl, by kernel_rfl, fun _ _ _ _ _ _ us hl => match us, hl with | [_, _], _ => rfl⟩
theorem ok35 : DOk gl al d35 f__law_drawn := ⟨by kernel_rfl, rfl, rfl, by kernel_rfl, fun _ _ _ _ _ _ us hl => match us, hl with | [_, _], _ => rfl⟩
theorem ok36 : DOk gl al d36 f__law_rule := ⟨by kernel_rfl, rfl, rfl, by kernel_rfl, fun _ _ _ _ _ _ us hl => match us, hl with | [_], _ => rfl⟩
theorem ok37 : DOk gl al d37 f__law_wait := ⟨by kernel_rfl, rfl, rfl, by kernel_rfl, fun _ _ _ _ _ _ us hl => match us, hl with | [_, _], _ => rfl⟩
theorem ok38 : DOk gl al d38 f__law_any_name := ⟨by kernel_rfl, rfl, rfl, by kernel_rfl, fun _ _ _ _ _ _ us hl => match us, hl with | [_, _], _ => rfl⟩
theorem ok39 : DOk gl al d39 f__law_any_text := ⟨by kernel_rfl, rfl, rfl, by kernel_rfl, fun _ _ _ _ _ _ us hl => match us, hl with | [_, _], _ => rfl⟩
theorem ok40 : DOk gl al d40 f__law_own := ⟨by kernel_rfl, rfl, rfl, by kernel_rfl, fun _ _ _ _ _ _ us hl => match us, hl with | [_], _ => rfl⟩
theorem ok41 : DOk gl al d41 f__law_real := ⟨by kernel_rfl, rfl, rfl, by kernel_rfl, fun _ _ _ _ _ _ us hl => match us, hl with | [_, _], _ => rfl⟩
theorem ok42 : DOk gl al d42 f__law_may := ⟨by kernel_rfl, rfl, rfl, by kernel_rfl, fun _ _ _ _ _ _ us hl => match us, hl with | [_, _], _ => rfl⟩
theorem ok43 : DOk gl al d43 f__law_due := ⟨by kernel_rfl, rfl, rfl, by kernel_rfl, fun _ _ _ _ _ _ us hl => match us, hl with | [_], _ => rfl⟩
theorem ok44 : DOk gl al d44 f__law_fail := ⟨by kernel_rfl, rfl, rfl, by kernel_rfl, fun _ _ _ _ _ _ us hl => match us, hl with | [_, _], _ => rfl⟩
theorem ok45 : DOk gl al d45 f__law_send := ⟨by kernel_rfl, rfl, rfl, by kernel_rfl, fun _ _ _ _ _ _ us hl => match us, hl with | [_, _, _, _], _ => rfl⟩
theorem ok46 : DOk gl al d46 f__law_try := ⟨by kernel_rfl, rfl, rfl, by kernel_rfl, fun _ _ _ _ _ _ us hl => match us, hl with | [_], _ => rfl⟩
theorem ok47 : DOk gl al d47 f__law_tick := ⟨by kernel_rfl, rfl, rfl, by kernel_rfl, fun _ _ _ _ _ _ us hl => match us, hl with | [_, _], _ => rfl⟩
theorem ok48 : DOk gl al d48 f__law_hand := ⟨by kernel_rfl, rfl, rfl, by kernel_rfl, fun _ _ _ _ _ _ us hl => match us, hl with | [_, _, _, _], _ => rfl⟩
theorem ok49 : DOk gl al d49 f__law_lead := ⟨by kernel_rfl, rfl, rfl, by kernel_rfl, fun _ _ _ _ _ _ us hl => match us, hl with | [_, _, _], _ => rfl⟩
theorem ok50 : DOk gl al d50 f__law_deed := ⟨by kernel_rfl, rfl, rfl, by kernel_rfl, fun _ _ _ _ _ _ us hl => match us, hl with | [_, _], _ => rfl⟩
theorem ok51 : DOk gl al d51 f__law_own_does := ⟨by kernel_rfl, rfl, rfl, by kernel_rfl, fun _ _ _ _ _ _ us hl => match us, hl with | [_, _], _ => rfl⟩
theorem ok52 : DOk gl al d52 f__law_does := ⟨by kernel_rfl, rfl, rfl, by kernel_rfl, fun _ _ _ _ _ _ us hl => match us, hl with | [_, _], _ => rfl⟩
theorem ok53 : DOk gl al d53 f__law_like := ⟨by kernel_rfl, rfl, rfl, by kernel_rfl, fun _ _ _ _ _ _ us hl => match us, hl with | [_, _], _ => rfl⟩
theorem ok54 : DOk gl al d54 f_law := ⟨by kernel_rfl, rfl, rfl, by kernel_rfl, fun _ _ _ _ _ _ us hl => match us, hl with | [_], _ => rfl⟩
theorem both : Both gl al ds Pg.fns := .cons ok0 (.cons ok1 (.cons ok2 (.cons ok3 (.cons ok4 (.cons ok5 (.cons ok6 (.cons ok7 (.cons ok8 (.cons ok9 (.cons ok10 (.cons ok11 (.cons ok12 (.cons ok13 (.cons ok14 (.cons ok15 (.cons ok16 (.cons ok17 (.cons ok18 (.cons ok19 (.cons ok20 (.cons ok21 (.cons ok22 (.cons ok23 (.cons ok24 (.cons ok25 (.cons ok26 (.cons ok27 (.cons ok28 (.cons ok29 (.cons ok30 (.cons ok31 (.cons ok32 (.cons ok33 (.cons ok34 (.cons ok35 (.cons ok36 (.cons ok37 (.cons ok38 (.cons ok39 (.cons ok40 (.cons ok41 (.cons ok42 (.cons ok43 (.cons ok44 (.cons ok45 (.cons ok46 (.cons ok47 (.cons ok48 (.cons ok49 (.cons ok50 (.cons ok51 (.cons ok52 (.cons ok53 (.cons ok54 .nil))))))))))))))))))))))))))))))))))))))))))))))))))))))
abbrev sT : Stmt := top 33
abbrev sW : Stmt := top 32
def wN : List Str := ["e", "flags"]
def ws : List Str := ["BadCall", "BadName", "BadRule", "BadText", "BadTime", "Full"]
def L : LawX := ⟨Pg, gl, al, ds, ["Call", "Caller", "TryError", "BadRule", "BadName", "BadText", "BadTime", "BadCall", "Full"], sT, sW, wN, ws, d54⟩
theorem wordT : WordT sW wN ws := by
  refine ⟨1, by decide, fun X a D c hN hs hE hc hv h4 hd => ?_⟩
  have g : ∀ x : Str, (defScope sW).names.lookup x = some .globalImplicit → Gl X x := fun x h => by
    show X.env.scope.names.lookup x = _
    rw [hs]
    exact h
  have l : ∀ x : Str, (defScope sW).names.lookup x = some .local → X.env.scope.names.lookup x = some .local := fun x h => by
    rw [hs]
    exact h
  have n : WordN X := ⟨⟨by rw [hN]; rfl, l _ (by kernel_rfl), g _ (by kernel_rfl), h4 _ (by decide +kernel)⟩, by rw [hN]; decide +kernel, by rw [hN]; rfl, l _ (by kernel_rfl), g _ (by kernel_rfl), h4 _ (by decide +kernel), g _ (by kernel_rfl), h4 _ (by decide +kernel), h4 _ (by decide +kernel)⟩
  have glob : ∀ d ∈ ws, (defScope sW).names.lookup d = some .globalImplicit ∧ (d == ("__debug__" : Str)) = false := fun d hd => by
    have := List.all_eq_true.mp (show ws.all (fun d => decide ((defScope sW).names.lookup d = some .globalImplicit) && !(d == ("__debug__" : Str))) = true by kernel_rfl) d hd
    simpa using this
  have fl : ∀ w : List Str, (∀ d ∈ w, d ∈ ws) → ∀ d ∈ w, Gl X d ∧ X.mg d = some (.ref (He.ga X.K d)) ∧ (d == ("__debug__" : Str)) = false ∧ PySem.W.kitOne X.K (.ref D) (.ref (He.ga X.K d)) = some (decide (d = c)) := fun w hw d hdw =>
    ⟨g d (glob d (hw d hdw)).1, (hd d (hw d hdw)).1, (glob d (hw d hdw)).2, (hd d (hw d hdw)).2⟩
  have o : OneOf ((["BadCall", "BadName", "BadRule", "BadText"] : List Str).map (fun d => decide (d = c)) ++ (["BadTime", "Full"] : List Str).map (fun d => decide (d = c))) ws c := by
    rw [← List.map_append]
    exact oneOf (by decide +kernel) hc (by decide)
  exact pss_word6 hE n (isE_of (ws := ["BadCall", "BadName", "BadRule", "BadText"]) (.cons (.cons (.cons (.cons .nil)))) (fl _ (by decide +kernel))) (isE_of (ws := ["BadTime", "Full"]) (.cons (.cons .nil)) (fl _ (by decide +kernel))) (xs := ws) (.cons (.cons (.cons (.cons (.cons (.cons .nil)))))) o hv (by kernel_rfl) (by rfl)
theorem toldD : ToldD sT sW wN ws := ⟨⟨_, _, _, _, _, _, _, _, _, _, rfl⟩, wordT, by kernel_rfl, by kernel_rfl, fun _ _ _ _ _ _ us hl => match us, hl with | [_], _ => rfl, fun _ _ _ _ _ _ us hl => match us, hl with | [_], _ => rfl, by kernel_rfl, by kernel_rfl, by kernel_rfl, by kernel_rfl⟩
theorem ok : L.Ok := ⟨both, by kernel_rfl, toldD, by kernel_rfl, by kernel_rfl, rfl, rfl⟩
end Lk20

namespace MT
open PySem MI
theorem mulOk_r {i j : Int} (h : j.natAbs < 2 ^ 64) : mulOk i j = true := by
  unfold mulOk
  rw [decide_eq_true h, Bool.or_true, Bool.true_or]
theorem mulOk_l {i j : Int} (h : i.natAbs < 2 ^ 64) : mulOk i j = true := by
  unfold mulOk
  rw [decide_eq_true h, Bool.true_or, Bool.true_or]
theorem mulOk_b {i j : Int} (h1 : i.natAbs < 2 ^ 250) (h2 : j.natAbs < 2 ^ 250) : mulOk i j = true := by
  have e : (2 : Nat) ^ 250 ≤ 2 ^ 1000 := Nat.pow_le_pow_right (by decide) (by decide)
  unfold mulOk
  rw [decide_eq_true (Nat.lt_of_lt_of_le h1 e), decide_eq_true (Nat.lt_of_lt_of_le h2 e), Bool.and_true, Bool.or_true]
theorem lt1000 {j : Int} (h : j < 2 ^ 64) : j < 2 ^ 1000 := by
  have e : ((2 : Nat) ^ 64 : Nat) ≤ (2 ^ 1000 : Nat) := Nat.pow_le_pow_right (by decide) (by decide)
  have e2 : ((2 : Int) ^ 64) ≤ 2 ^ 1000 := by exact_mod_cast e
  exact Int.lt_of_lt_of_le h e2
@[simp high] theorem div_lit {h : AH} (i j : Int) (h0 : 0 < j) (h1 : j < 2 ^ 64) : binOp h .FloorDiv (.int i) (.int j) = some (.int (i / j)) := by
  rw [div_ii, decide_eq_true h0, decide_eq_true (lt1000 h1)]
  rfl
/-- a turn goes on -/
def Goes (r : F) (P : ASt → AH → Prop) : Prop := ∃ s h, (r = .nx s h ∨ r = .ct s h) ∧ P s h
theorem forL_inv {nx : Nat → AH → Option (Option A)} {bd : A → ASt → AH → F} {n : Nat} (Inv : Nat → ASt → AH → Prop) (go : ∀ i s h, i < n → Inv i s h → ∃ x, nx i h = some (some x) ∧ Goes (bd x s h) (Inv (i + 1))) (stop : ∀ s h, Inv n s h → nx n h = some none) :
    ∀ (m i : Nat) (s : ASt) (h : AH), i + m = n → Inv i s h → ∃ s' h', forL nx bd (m + 1) i s h = .nx s' h' ∧ Inv n s' h'
  | 0, i, s, h, e, I => by
    have e : i = n := by omega
    subst e
    refine ⟨s, h, ?_, I⟩
    unfold forL
    rw [stop s h I]
  | m + 1, i, s, h, e, I => by
    obtain ⟨x, h1, s1, h2, h3, h4⟩ := go i s h (by omega) I
    obtain ⟨s', h', h5, h6⟩ := forL_inv Inv go stop m (i + 1) s1 h2 (by omega) h4
    refine ⟨s', h', ?_, h6⟩
    unfold forL
    rw [h1]
    rcases h3 with h3 | h3 <;> (simp only [h3]; exact h5)
theorem rngA_some {lo hi : Int} (h1 : -(2 ^ 60) < lo) (h2 : lo < 2 ^ 60) (h3 : -(2 ^ 60) < hi) (h4 : hi < 2 ^ 60) : rngA lo hi = some ⟨fun i _ => some (if i < (hi - lo).toNat then some (.int (lo + i)) else none), (hi - lo).toNat + 1, none⟩ := by
  unfold rngA
  rw [if_pos (by simp only [Bool.and_eq_true, decide_eq_true_eq]; omega)]
/-- for x in range(..) -/
theorem for_rng {bd : A → ASt → AH → F} {lo : Int} {n : Nat} {s : ASt} {h : AH} (Inv : Nat → ASt → AH → Prop) (h0 : Inv 0 s h) (go : ∀ i s h, i < n → Inv i s h → Goes (bd (.int (lo + i)) s h) (Inv (i + 1))) :
    ∃ s' h', forL (fun i _ => some (if i < n then some (.int (lo + i)) else none)) bd (n + 1) 0 s h = .nx s' h' ∧ Inv n s' h' :=
  forL_inv Inv (fun i s h hi I => ⟨.int (lo + i), by simp [hi], go i s h hi I⟩) (fun s h _ => by simp) n 0 s h (by omega) h0
/-- for x in a list that nobody changes -/
theorem for_lst {bd : A → ASt → AH → F} {xs : List A} {s : ASt} {h : AH} (Inv : Nat → ASt → AH → Prop) (h0 : Inv 0 s h) (go : ∀ (i : Nat) (x : A) (s : ASt) (h : AH), xs[i]? = some x → Inv i s h → Goes (bd x s h) (Inv (i + 1))) :
    ∃ s' h', forL (fun i _ => some xs[i]?) bd (xs.length + 1) 0 s h = .nx s' h' ∧ Inv xs.length s' h' :=
  forL_inv Inv (fun i s h hi I => ⟨xs[i], by simp [hi], go i xs[i] s h (by simp [hi]) I⟩) (fun s h _ => by simp) xs.length 0 s h (by omega) h0
theorem compL_map {nx : Nat → AH → Option (Option A)} {bd : A → AH → R (Option A)} {xs ys : List A} {h : AH} (hx : ∀ i : Nat, nx i h = some xs[i]?) (hl : ys.length = xs.length) (hb : ∀ (i : Nat) (x : A), xs[i]? = some x → ∃ y, ys[i]? = some y ∧ bd x h = .ok (some y) h) (hs : xs.length ≤ 100000) :
    ∀ (m i : Nat) (acc : List A), i + m = xs.length → acc = ys.take i → compL nx bd (m + 1) i acc h = .ok ys h
  | 0, i, acc, e, ea => by
    unfold compL
    have : xs[i]? = none := by simp; omega
    rw [hx, this]
    simp only [ea]
    rw [List.take_of_length_le (by omega)]
  | m + 1, i, acc, e, ea => by
    unfold compL
    have hi : i < xs.length := by omega
    obtain ⟨y, h1, h2⟩ := hb i xs[i] (by simp [hi])
    rw [hx, List.getElem?_eq_getElem hi]
    simp only [h2]
    have hy : i < ys.length := by omega
    have la : acc.length ≤ 100000 := by rw [ea, List.length_take]; omega
    rw [if_pos (by simp [small, la])]
    refine compL_map hx hl hb hs m (i + 1) _ (by omega) ?_
    rw [ea, List.take_succ_eq_append_getElem hy]
    rw [List.getElem?_eq_getElem hy] at h1
    rw [Option.some.inj h1]
def drawn (c k : Int) : Int :=
  let m := (c * 6364136223846793005 + (k + 1) * 1442695040888963407) % 340282366920938463463374607431768211507
  let m := m * m % 340282366920938463463374607431768211297
  let m := (m % 18446744073709551557 + 1) * (m / 18446744073709551557 + 1) * m
  m % 340282366920938463463374607431768211507
theorem drawn_nn (c k : Int) : 0 ≤ drawn c k := Int.emod_nonneg _ (by decide)
theorem drawn_lt (c k : Int) : drawn c k < 340282366920938463463374607431768211507 := Int.emod_lt_of_pos _ (by decide)
def drawnF : Fn := ⟨2, 3,
  (.cons (.asg (.nm 2) (.bin .Mod (.bin .Add (.bin .Mult (.var 0) (.con (.int 6364136223846793005))) (.bin .Mult (.bin .Add (.var 1) (.con (.int 1))) (.con (.int 1442695040888963407)))) (.con (.int 340282366920938463463374607431768211507))))
  (.cons (.asg (.nm 2) (.bin .Mod (.bin .Mult (.var 2) (.var 2)) (.con (.int 340282366920938463463374607431768211297))))
  (.cons (.asg (.nm 2) (.bin .Mult (.bin .Mult (.bin .Add (.bin .Mod (.var 2) (.con (.int 18446744073709551557))) (.con (.int 1))) (.bin .Add (.bin .FloorDiv (.var 2) (.con (.int 18446744073709551557))) (.con (.int 1)))) (.var 2)))
  (.cons (.ret (.bin .Mod (.var 2) (.con (.int 340282366920938463463374607431768211507))))
  .nil))))⟩
theorem run_drawn {Pg : Prog} {cf : Str → List A → AH → R A} (c k : Int) (h : AH) : runFn Pg cf drawnF [.int c, .int k] h = .ok (.int (drawn c k)) h := by
  have e1 : mulOk c 6364136223846793005 = true := mulOk_r (by decide)
  have e2 : mulOk (k + 1) 1442695040888963407 = true := mulOk_r (by decide)
  have b1 : 0 ≤ (c * 6364136223846793005 + (k + 1) * 1442695040888963407) % 340282366920938463463374607431768211507 := Int.emod_nonneg _ (by decide)
  have b2 : (c * 6364136223846793005 + (k + 1) * 1442695040888963407) % 340282366920938463463374607431768211507 < 340282366920938463463374607431768211507 := Int.emod_lt_of_pos _ (by decide)
  unfold drawn
  generalize hm : (c * 6364136223846793005 + (k + 1) * 1442695040888963407) % 340282366920938463463374607431768211507 = m at b1 b2
  have e3 : mulOk m m = true := mulOk_b (by omega) (by omega)
  have b3 : 0 ≤ m * m % 340282366920938463463374607431768211297 := Int.emod_nonneg _ (by decide)
  have b4 : m * m % 340282366920938463463374607431768211297 < 340282366920938463463374607431768211297 := Int.emod_lt_of_pos _ (by decide)
  simp only [drawnF, runFn_eq, evSs_cons, evS_asg, evE_bin]
  simp [e1, e2, hm, e3]
  generalize hm2 : m * m % 340282366920938463463374607431768211297 = m2 at b3 b4
  have e4 : mulOk (m2 % 18446744073709551557 + 1) (m2 / 18446744073709551557 + 1) = true := mulOk_b (by omega) (by omega)
  have b5 : 0 ≤ m2 % 18446744073709551557 + 1 ∧ m2 % 18446744073709551557 + 1 ≤ 18446744073709551557 := by omega
  have b6 : 0 ≤ m2 / 18446744073709551557 + 1 ∧ m2 / 18446744073709551557 + 1 ≤ 36893488147419103232 := by omega
  have e5 : mulOk ((m2 % 18446744073709551557 + 1) * (m2 / 18446744073709551557 + 1)) m2 = true := by
    refine mulOk_b ?_ (by omega)
    rw [Int.natAbs_mul]
    calc (m2 % 18446744073709551557 + 1).natAbs * (m2 / 18446744073709551557 + 1).natAbs ≤ 18446744073709551616 * 36893488147419103232 := Nat.mul_le_mul (by omega) (by omega)
      _ < 2 ^ 250 := by decide
  simp [e4, e5]
def cellF : Fn := ⟨2, 2,
  (.cons (.ife (.cmp .Eq (.var 0) (.lst false .nil)) (.cons (.ret (.bin .Mult (.var 1) (.con (.int 7919))))
    .nil) .nil)
  (.cons (.ret (.bin .Add (.ix (.var 0) (.bin .Mod (.var 1) (.bi .len (.cons (.var 0) .nil)))) (.bin .Mult (.bin .FloorDiv (.var 1) (.bi .len (.cons (.var 0) .nil))) (.con (.int 104729)))))
  .nil))⟩
theorem mapO_all {α β : Type} {f : α → Option β} {P : β → Prop} (hf : ∀ a b, f a = some b → P b) : ∀ {xs : List α} {ys : List β}, mapO f xs = some ys → ∀ y ∈ ys, P y
  | [], ys, h, y, hy => by
    simp only [mapO, Option.some.injEq] at h
    subst h
    simp at hy
  | x :: xs, ys, h, y, hy => by
    unfold mapO at h
    cases e : f x with
    | none => rw [e] at h; cases h
    | some b =>
      rw [e] at h
      cases e2 : mapO f xs with
      | none => rw [e2] at h; cases h
      | some bs =>
        rw [e2] at h
        cases h
        rcases List.mem_cons.mp hy with q | q
        · rw [q]; exact hf x b e
        · exact mapO_all hf e2 y q
theorem depthAll_le {n : Nat} : ∀ {ds : List PyData}, (∀ d ∈ ds, PyData.depth d ≤ n) → PyData.depthAll ds ≤ n
  | [], _ => by simp [PyData.depthAll]
  | d :: ds, h => by
    rw [PyData.depthAll]
    exact Nat.max_le.mpr ⟨h d List.mem_cons_self, depthAll_le fun e he => h e (List.mem_cons_of_mem _ he)⟩
theorem data_depth {h : AH} : ∀ (n : Nat) (a : A) (d : PyData), dataOf h n a = some d → d.depth ≤ n
  | n, .non, d, e => by cases n <;> (cases e; simp [PyData.depth])
  | n, .bl b, d, e => by cases n <;> (cases e; simp [PyData.depth])
  | n, .int b, d, e => by cases n <;> (cases e; simp [PyData.depth])
  | n, .str b, d, e => by cases n <;> (cases e; simp [PyData.depth])
  | 0, .tup xs, d, e => by cases e
  | 0, .lst xs, d, e => by cases e
  | 0, .fro xs, d, e => by cases e
  | 0, .loc l, d, e => by cases e
  | n + 1, .tup xs, d, e => by
    obtain ⟨ds, h1, rfl⟩ := Option.map_eq_some_iff.mp (show (mapO (dataOf h n) xs).map PyData.tuple = some d from e)
    have := depthAll_le (mapO_all (fun a b => data_depth n a b) h1)
    simp only [PyData.depth]
    omega
  | n + 1, .lst xs, d, e => by
    obtain ⟨ds, h1, rfl⟩ := Option.map_eq_some_iff.mp (show (mapO (dataOf h n) xs).map PyData.list = some d from e)
    have := depthAll_le (mapO_all (fun a b => data_depth n a b) h1)
    simp only [PyData.depth]
    omega
  | n + 1, .fro xs, d, e => by
    obtain ⟨ds, h1, rfl⟩ := Option.map_eq_some_iff.mp (show (mapO (dataOf h n) xs).map PyData.list = some d from e)
    have := depthAll_le (mapO_all (fun a b => data_depth n a b) h1)
    simp only [PyData.depth]
    omega
  | n + 1, .loc l, d, e => by
    have e : (match h[l]? with | some (.lst xs) => (mapO (dataOf h n) xs).map PyData.list | _ => none) = some d := e
    split at e
    · obtain ⟨ds, h1, rfl⟩ := Option.map_eq_some_iff.mp e
      have := depthAll_le (mapO_all (fun a b => data_depth n a b) h1)
      simp only [PyData.depth]
      omega
    · cases e
/-- == by the data -/
theorem eqD_data {h : AH} {a b : A} {d e : PyData} (h1 : dataOf h 6 a = some d) (h2 : dataOf h 6 b = some e) (o1 : d.canLay0 = true) (o2 : e.canLay0 = true) : eqD h a b = some (PyData.eqv d e) := by
  have e1 := data_depth 6 a d h1
  have e2 := data_depth 6 b e h2
  unfold eqD
  rw [h1, h2]
  have s1 : SeqAt.shaped d = true := by unfold SeqAt.shaped; rw [o1, decide_eq_true (by omega)]; rfl
  have s2 : SeqAt.shaped e = true := by unfold SeqAt.shaped; rw [o2, decide_eq_true (by omega)]; rfl
  simp only [s1, s2, Bool.and_self, if_true]
theorem mapO_len {α β : Type} {f : α → Option β} : ∀ {xs : List α} {ys : List β}, mapO f xs = some ys → ys.length = xs.length
  | [], ys, h => by cases h; rfl
  | x :: xs, ys, h => by
    unfold mapO at h
    split at h
    · cases h
    · split at h
      · cases h
      · rename_i e
        cases h
        simp [mapO_len e]
theorem eqvAll_len : ∀ {xs ys : List PyData}, xs.length ≠ ys.length → PyData.eqvAll xs ys = false
  | [], [], h => absurd rfl h
  | [], _ :: _, _ => by simp [PyData.eqvAll]
  | _ :: _, [], _ => by simp [PyData.eqvAll]
  | x :: xs, y :: ys, h => by
    rw [PyData.eqvAll, eqvAll_len (by simpa using h), Bool.and_false]
theorem data_list {h : AH} {n : Nat} {a : A} {xs : List A} {d : PyData} (e : listAt h a = some xs) (h1 : dataOf h n a = some d) : ∃ ds, d = .list ds ∧ ds.length = xs.length := by
  cases n with
  | zero =>
    cases a with
    | lst ys => simp [dataOf] at h1
    | fro ys => simp [dataOf] at h1
    | loc l => simp [dataOf] at h1
    | _ => cases e
  | succ n =>
    cases a with
    | lst ys =>
      cases e
      obtain ⟨ds, g1, rfl⟩ := Option.map_eq_some_iff.mp (show (mapO (dataOf h n) xs).map PyData.list = some d from h1)
      exact ⟨ds, rfl, mapO_len g1⟩
    | fro ys =>
      cases e
      obtain ⟨ds, g1, rfl⟩ := Option.map_eq_some_iff.mp (show (mapO (dataOf h n) xs).map PyData.list = some d from h1)
      exact ⟨ds, rfl, mapO_len g1⟩
    | loc l =>
      simp only [listAt] at e
      simp only [dataOf] at h1
      split at e
      · rename_i ys ey
        cases e
        rw [ey] at h1
        obtain ⟨ds, g1, rfl⟩ := Option.map_eq_some_iff.mp h1
        exact ⟨ds, rfl, mapO_len g1⟩
      · cases e
    | _ => cases e
theorem eqL_data {h : AH} {a b : A} {d e : PyData} (h1 : dataOf h 6 a = some d) (h2 : dataOf h 6 b = some e) (o1 : d.canLay0 = true) (o2 : e.canLay0 = true) : eqL h a b = some (PyData.eqv d e) := by
  unfold eqL
  split
  · rename_i xs ys e1 e2
    split
    · exact eqD_data h1 h2 o1 o2
    · rename_i hl
      obtain ⟨ds, rfl, l1⟩ := data_list e1 h1
      obtain ⟨es, rfl, l2⟩ := data_list e2 h2
      rw [PyData.eqv, eqvAll_len (by omega)]
  · exact eqD_data h1 h2 o1 o2
theorem eqA_data {h : AH} {a b : A} {d e : PyData} (h1 : dataOf h 6 a = some d) (h2 : dataOf h 6 b = some e) (o1 : d.canLay0 = true) (o2 : e.canLay0 = true) : eqA h a b = some (PyData.eqv d e) := by
  cases a with
  | str x =>
    cases b with
    | str y =>
      cases h1
      cases h2
      simp only [eqA, PyData.eqv, Option.some.injEq]
      rw [Bool.eq_iff_iff]
      simp
    | _ => exact eqD_data h1 h2 o1 o2
  | loc l =>
    cases b with
    | loc m =>
      simp only [eqA]
      split
      · rename_i ks ls e1 e2
        simp only [dataOf, e1] at h1
        cases h1
      · exact eqL_data h1 h2 o1 o2
    | _ => exact eqL_data h1 h2 o1 o2
  | _ => exact eqL_data h1 h2 o1 o2
@[simp] theorem eqA_ss {h : AH} (x y : Str) : eqA h (.str x) (.str y) = some (decide (x = y)) := rfl
theorem eqA_same {h : AH} {a b : A} {d : PyData} (h1 : dataOf h 6 a = some d) (h2 : dataOf h 6 b = some d) (o1 : d.canLay0 = true) : eqA h a b = some true := by
  rw [eqA_data h1 h2 o1 o1, SeqAt.eqv_refl d o1]
theorem data_int {h : AH} (n : Nat) (i : Int) : dataOf h n (.int i) = some (.int i) := by cases n <;> rfl
theorem dataInts {h : AH} (n : Nat) (ns : List Int) : mapO (dataOf h n) (ns.map A.int) = some (ns.map PyData.int) := by
  induction ns with
  | nil => rfl
  | cons x xs ih => simp only [List.map_cons, mapO, data_int, ih]
theorem layInts : ∀ ns : List Int, PyData.canLayAll0 (ns.map PyData.int) = true
  | [] => rfl
  | x :: xs => by simp [PyData.canLayAll0, PyData.canLay0, layInts xs]
@[simp] theorem eqA_ii {h : AH} (i j : Int) : eqA h (.int i) (.int j) = some (i == j) := by
  rw [eqA_data (data_int 6 i) (data_int 6 j) (by simp [PyData.canLay0]) (by simp [PyData.canLay0])]
  simp [PyData.eqv]
theorem run_cell {Pg : Prog} {cf : Str → List A → AH → R A} (ns : List Int) (hn : ns.length ≤ 63) (k : Int) (hk : 0 ≤ k) (h : AH) : ∃ c, runFn Pg cf cellF [.fro (ns.map A.int), .int k] h = .ok (.int c) h := by
  have eq : eqA h (.fro (ns.map A.int)) (.lst []) = some (decide (ns = [])) := by
    have h1 : dataOf h 6 (.fro (ns.map A.int)) = some (.list (ns.map PyData.int)) := by
      show (mapO (dataOf h 5) (ns.map A.int)).map PyData.list = _
      rw [dataInts]
      rfl
    rw [eqA_data h1 (show dataOf h 6 (.lst []) = some (.list []) from rfl) (by simp [PyData.canLay0, layInts]) (by simp [PyData.canLay0, PyData.canLayAll0])]
    cases ns <;> simp [PyData.eqv, PyData.eqvAll]
  cases ns with
  | nil =>
    simp at eq
    simp [cellF, eq, mulOk_r (i := k) (j := 7919) (by decide)]
  | cons x xs =>
    have h0 : (0 : Int) < (xs.length : Int) + 1 := by omega
    have h1 : ((xs.length : Int) + 1) < 2 ^ 64 := by simp at hn; omega
    have m1 : mulOk (k / ((xs.length : Int) + 1)) 104729 = true := mulOk_r (by decide)
    have b1 := Int.emod_nonneg k (show (xs.length : Int) + 1 ≠ 0 by omega)
    have b2 := Int.emod_lt_of_pos k h0
    have at_ : ∃ z, L2.atI (A.int x :: xs.map A.int) (k % ((xs.length : Int) + 1)) = some (.int z) := by
      obtain ⟨j, hj⟩ := Int.eq_ofNat_of_zero_le b1
      have hj2 : j < (x :: xs).length := by simp; omega
      refine ⟨(x :: xs)[j], ?_⟩
      rw [hj]
      refine L2.atI_nat ?_
      rw [← List.map_cons, List.getElem?_map, List.getElem?_eq_getElem hj2]
      rfl
    obtain ⟨z, hz⟩ := at_
    refine ⟨z + k / ((xs.length : Int) + 1) * 104729, ?_⟩
    simp at eq
    have h2 : ((xs.length : Int) + 1) < 2 ^ 1000 := lt1000 h1
    simp [cellF, eq, hz, m1, h0, h2]
theorem compL_succ (nx : Nat → AH → Option (Option A)) (bd : A → AH → R (Option A)) (f i : Nat) (acc : List A) (h : AH) : compL nx bd (f + 1) i acc h = match nx i h with
    | none => .bad
    | some none => .ok acc h
    | some (some x) => match bd x h with
      | .ok (some y) h' => if small acc.length then compL nx bd f (i + 1) (acc ++ [y]) h' else .bad
      | .ok none h' => compL nx bd f (i + 1) acc h'
      | .exc _ _ => .bad
      | .bad => .bad := rfl
theorem forL_succ (nx : Nat → AH → Option (Option A)) (bd : A → ASt → AH → F) (f i : Nat) (s : ASt) (h : AH) : forL nx bd (f + 1) i s h = match nx i h with
    | none => .bad
    | some none => .nx s h
    | some (some x) => match bd x s h with
      | .nx s' h' => forL nx bd f (i + 1) s' h'
      | .ct s' h' => forL nx bd f (i + 1) s' h'
      | .bk s' h' => .nx s' h'
      | r => r := rfl
@[simp] theorem recv_append (l : Nat) (h : AH) : recvOk .append (.loc l) h = match h[l]? with | some (.lst _) => true | _ => false := rfl
@[simp] theorem bm_append (l : Nat) (x : A) (h : AH) : bmOp .append (.loc l) [x] h = match h[l]? with | some (.lst xs) => if small xs.length then .ok .non (h.set l (.lst (xs ++ [x]))) else .bad | _ => .bad := rfl
@[simp] theorem listAt_loc (l : Nat) (h : AH) : listAt h (.loc l) = match h[l]? with | some (.lst xs) => some xs | _ => none := rfl
@[simp] theorem set_last (h : AH) (x y : AO) : (h ++ [x]).set h.length y = h ++ [y] := by simp
def pick4 (a b c e d : Int) : Int := if d % 4 = 0 then a else if d % 4 = 1 then b else if d % 4 = 2 then c else e
theorem at_pick4 (a b c e d : Int) : L2.atI [A.int a, .int b, .int c, .int e] (d % 4) = some (.int (pick4 a b c e d)) := by
  have h : d % 4 = 0 ∨ d % 4 = 1 ∨ d % 4 = 2 ∨ d % 4 = 3 := by omega
  unfold pick4
  rcases h with h | h | h | h <;> rw [h] <;> rfl
def hdS : Ss → S
  | .cons s _ => s
  | .nil => .pas
def tlS : Ss → Ss
  | .cons _ ss => ss
  | .nil => .nil
def dropS : Nat → Ss → Ss
  | 0, ss => ss
  | n + 1, ss => dropS n (tlS ss)
def nthS (n : Nat) (ss : Ss) : S := hdS (dropS n ss)
def bodyS : S → Ss
  | .fo _ _ b => b
  | .wh _ b => b
  | .ife _ a _ => a
  | _ => .nil
def isNil : Ss → Bool
  | .nil => true
  | _ => false
theorem dropS_tl : ∀ (n : Nat) (ss : Ss), dropS (n + 1) ss = tlS (dropS n ss)
  | 0, _ => rfl
  | n + 1, ss => dropS_tl n (tlS ss)
/-- one statement, then the rest -/
theorem step_at {Pg : Prog} {cf : Str → List A → AH → R A} {ss : Ss} {n : Nat} {s s' : ASt} {h h' : AH} (hn : isNil (dropS n ss) = false) (e : evS Pg cf (nthS n ss) s h = .nx s' h') : evSs Pg cf (dropS n ss) s h = evSs Pg cf (dropS (n + 1) ss) s' h' := by
  rw [dropS_tl]
  unfold nthS at e
  cases q : dropS n ss with
  | nil => rw [q] at hn; cases hn
  | cons a b =>
    rw [q] at e
    rw [evSs_cons]
    simp only [hdS] at e
    rw [e]
    rfl
end MT

namespace MC
open PySem L2 MI MT
def f_is_name : Fn := ⟨1, 3,
  (.cons (.ret (.and (.isi (.var 0) .str) (.and (.chn .LtE .LtE (.con (.int 1)) (.bi .len (.cons (.var 0) .nil)) (.glo "MOST_NAME" (.int 4))) (.bi .all (.cons (.comp false (.cmp .In (.var 1) (.glo "SMALL" (.str "abcdefghijklmnopqrstuvwxyz"))) (.nm 1) (.seq (.var 0)) .nil [2, 1]) .nil)))))
  .nil)⟩
def f_need_name : Fn := ⟨1, 1,
  (.cons (.ife (.not (.call "is_name" (.cons (.var 0) .nil))) (.cons (.rai "BadName")
    .nil) .nil)
  .nil)⟩
def f_is_text : Fn := ⟨1, 4,
  (.cons (.asg (.nm 1) (.and (.isi (.var 0) .str) (.cmp .LtE (.bi .len (.cons (.var 0) .nil)) (.glo "MOST_TEXT" (.int 20)))))
  (.cons (.ret (.and (.var 1) (.bi .all (.cons (.comp false (.and (.chn .LtE .LtE (.con (.str " ")) (.var 2) (.con (.str "~"))) (.cmp .NotEq (.bi .ord (.cons (.var 2) .nil)) (.glo "BARRED" (.int 37)))) (.nm 2) (.seq (.var 0)) .nil [3, 2]) .nil))))
  .nil))⟩
def f_need_text : Fn := ⟨1, 1,
  (.cons (.ife (.not (.call "is_text" (.cons (.var 0) .nil))) (.cons (.rai "BadText")
    .nil) .nil)
  .nil)⟩
def f_is_count : Fn := ⟨3, 3,
  (.cons (.ret (.and (.isi (.var 0) .int) (.and (.not (.isi (.var 0) .bool)) (.chn .LtE .LtE (.var 1) (.var 0) (.var 2)))))
  .nil)⟩
def f_need_rule : Fn := ⟨1, 6,
  (.cons (.asg (.nm 1) (.and (.isi (.var 0) .tuple) (.cmp .Eq (.bi .len (.cons (.var 0) .nil)) (.bi .len (.cons (.glo "BOUNDS" (.tup [(.tup [(.int 1), (.int 9)]), (.tup [(.int 1), (.int 3)]), (.tup [(.int 1), (.int 60)]), (.tup [(.int 1), (.int 5)]), (.tup [(.int 1), (.int 20)]), (.tup [(.int 1), (.int 3)])])) .nil)))))
  (.cons (.ife (.or (.not (.var 1)) (.not (.bi .all (.cons (.comp false (.call "is_count" (.cons (.var 2) (.cons (.var 3) (.cons (.var 4) .nil)))) (.tp (.cons (.nm 2) (.cons (.tp (.cons (.nm 3) (.cons (.nm 4) .nil))) .nil))) (.zip (.var 0) (.glo "BOUNDS" (.tup [(.tup [(.int 1), (.int 9)]), (.tup [(.int 1), (.int 3)]), (.tup [(.int 1), (.int 60)]), (.tup [(.int 1), (.int 5)]), (.tup [(.int 1), (.int 20)]), (.tup [(.int 1), (.int 3)])]))) .nil [5, 2, 3, 4]) .nil)))) (.cons (.rai "BadRule")
    .nil) .nil)
  .nil))⟩
def f_wait_of : Fn := ⟨2, 4,
  (.cons (.asg (.nm 2) (.ix (.var 0) (.con (.int 0))))
  (.cons (.fo (.nm 3) (.rng1 (.bin .Sub (.var 1) (.con (.int 1)))) (.cons (.asg (.nm 2) (.bi .min (.cons (.ix (.var 0) (.con (.int 2))) (.cons (.bin .Mult (.var 2) (.ix (.var 0) (.con (.int 1)))) .nil))))
    .nil))
  (.cons (.ret (.bi .min (.cons (.ix (.var 0) (.con (.int 2))) (.cons (.var 2) .nil))))
  .nil)))⟩
def f_need_mark : Fn := ⟨1, 4,
  (.cons (.asg (.nm 1) (.and (.isi (.var 0) .str) (.and (.chn .LtE .LtE (.con (.int 2)) (.bi .len (.cons (.var 0) .nil)) (.con (.int 5))) (.cmp .Eq (.ix (.var 0) (.con (.int 0))) (.con (.str "m"))))))
  (.cons (.ife (.or (.not (.var 1)) (.or (.not (.bi .all (.cons (.comp false (.cmp .In (.var 2) (.glo "FIGURES" (.str "0123456789"))) (.nm 2) (.seq (.sl (.var 0) (.cons (.con (.int 1)) .nil) .nil)) .nil [3, 2]) .nil))) (.cmp .Eq (.ix (.var 0) (.con (.int 1))) (.con (.str "0"))))) (.cons (.rai "BadText")
    .nil) .nil)
  .nil))⟩
def f_Taker___init__ : Fn := ⟨1, 1,
  (.cons (.asg (.fl (.var 0) "marks") (.dic .nil))
  (.cons (.asg (.fl (.var 0) "rows") (.dic .nil))
  .nil))⟩
def f_Taker_take : Fn := ⟨4, 4,
  (.cons (.exp (.call "need_mark" (.cons (.var 1) .nil)))
  (.cons (.exp (.call "need_name" (.cons (.var 2) .nil)))
  (.cons (.exp (.call "need_text" (.cons (.var 3) .nil)))
  (.cons (.ife (.cmp .In (.var 1) (.fld (.var 0) "marks")) (.cons (.ret (.con (.bl false)))
    .nil) .nil)
  (.cons (.asg (.sb (.fld (.var 0) "marks") (.var 1)) (.con (.bl true)))
  (.cons (.asg (.sb (.fld (.var 0) "rows") (.var 2)) (.bin .Add (.bm (.fld (.var 0) "rows") .get (.cons (.var 2) (.cons (.lst false .nil) .nil))) (.lst false (.cons (.var 3) .nil))))
  (.cons (.ret (.con (.bl true)))
  .nil)))))))⟩
def f_Taker_names : Fn := ⟨1, 1,
  (.cons (.ret (.bi .sorted (.cons (.fld (.var 0) "rows") .nil)))
  .nil)⟩
def f_Taker_row : Fn := ⟨2, 2,
  (.cons (.exp (.call "need_name" (.cons (.var 1) .nil)))
  (.cons (.ret (.bi .list (.cons (.bm (.fld (.var 0) "rows") .get (.cons (.var 1) (.cons (.lst false .nil) .nil))) .nil)))
  .nil))⟩
def f_Call___init__ : Fn := ⟨5, 5,
  (.cons (.asg (.fl (.var 0) "key") (.var 1))
  (.cons (.asg (.fl (.var 0) "goal") (.var 2))
  (.cons (.asg (.fl (.var 0) "text") (.var 3))
  (.cons (.asg (.fl (.var 0) "word") (.con (.str "waits")))
  (.cons (.asg (.fl (.var 0) "fails") (.con (.int 0)))
  (.cons (.asg (.fl (.var 0) "time") (.var 4))
  (.cons (.asg (.fl (.var 0) "many") (.con (.int 0)))
  (.cons (.asg (.fl (.var 0) "place") (.var 2))
  .nil))))))))⟩
def f_Caller___init__ : Fn := ⟨2, 2,
  (.cons (.exp (.call "need_rule" (.cons (.var 1) .nil)))
  (.cons (.asg (.fl (.var 0) "rule") (.var 1))
  (.cons (.asg (.fl (.var 0) "clock") (.con (.int 0)))
  (.cons (.asg (.fl (.var 0) "roads") (.dic .nil))
  (.cons (.asg (.fl (.var 0) "calls") (.dic .nil))
  (.cons (.asg (.fl (.var 0) "rows") (.lst true .nil))
  .nil))))))⟩
def f_Caller_say : Fn := ⟨3, 3,
  (.cons (.exp (.bm (.fld (.var 0) "rows") .append (.cons (.tup (.cons (.fld (.var 0) "clock") (.cons (.var 1) (.cons (.var 2) .nil)))) .nil)))
  .nil)⟩
def f_Caller_need_address : Fn := ⟨2, 2,
  (.cons (.exp (.call "need_name" (.cons (.var 1) .nil)))
  (.cons (.ife (.cmp .NotIn (.var 1) (.fld (.var 0) "roads")) (.cons (.rai "BadName")
    .nil) .nil)
  .nil))⟩
def f_Caller_add_address : Fn := ⟨2, 2,
  (.cons (.exp (.call "need_name" (.cons (.var 1) .nil)))
  (.cons (.ife (.or (.cmp .In (.var 1) (.fld (.var 0) "roads")) (.cmp .GtE (.bi .len (.cons (.fld (.var 0) "roads") .nil)) (.glo "MOST_ADDRESSES" (.int 5)))) (.cons (.rai "BadName")
    .nil) .nil)
  (.cons (.asg (.sb (.fld (.var 0) "roads") (.var 1)) (.var 1))
  .nil)))⟩
def f_Caller_road : Fn := ⟨2, 3,
  (.cons (.asg (.nm 2) (.lst true (.cons (.var 1) .nil)))
  (.cons (.wh (.cmp .NotEq (.ix (.fld (.var 0) "roads") (.ix (.var 2) (.neg (.con (.int 1))))) (.ix (.var 2) (.neg (.con (.int 1))))) (.cons (.exp (.bm (.var 2) .append (.cons (.ix (.fld (.var 0) "roads") (.ix (.var 2) (.neg (.con (.int 1))))) .nil)))
    .nil))
  (.cons (.ret (.var 2))
  .nil)))⟩
def f_Caller_end_of : Fn := ⟨2, 2,
  (.cons (.exp (.meth (.var 0) "need_address" (.cons (.var 1) .nil)))
  (.cons (.ret (.ix (.meth (.var 0) "road" (.cons (.var 1) .nil)) (.neg (.con (.int 1)))))
  .nil))⟩
def f_Caller_call : Fn := ⟨2, 2,
  (.cons (.ife (.not (.call "is_count" (.cons (.var 1) (.cons (.con (.int 1)) (.cons (.bi .len (.cons (.fld (.var 0) "calls") .nil)) .nil))))) (.cons (.rai "BadCall")
    .nil) .nil)
  (.cons (.ret (.ix (.fld (.var 0) "calls") (.var 1)))
  .nil))⟩
def f_Caller_numbers : Fn := ⟨1, 1,
  (.cons (.ret (.bi .sorted (.cons (.fld (.var 0) "calls") .nil)))
  .nil)⟩
def f_Caller_send : Fn := ⟨4, 5,
  (.cons (.exp (.call "need_name" (.cons (.var 1) .nil)))
  (.cons (.exp (.meth (.var 0) "need_address" (.cons (.var 2) .nil)))
  (.cons (.exp (.call "need_text" (.cons (.var 3) .nil)))
  (.cons (.ife (.cmp .GtE (.bi .len (.cons (.fld (.var 0) "calls") .nil)) (.glo "MOST_CALLS" (.int 30))) (.cons (.rai "Full")
    .nil) .nil)
  (.cons (.asg (.nm 4) (.bin .Add (.bi .len (.cons (.fld (.var 0) "calls") .nil)) (.con (.int 1))))
  (.cons (.asg (.sb (.fld (.var 0) "calls") (.var 4)) (.make "Call" (.cons (.var 1) (.cons (.var 2) (.cons (.var 3) (.cons (.fld (.var 0) "clock") .nil))))))
  (.cons (.exp (.meth (.var 0) "say" (.cons (.var 4) (.cons (.con (.str "sent")) .nil))))
  (.cons (.ret (.var 4))
  .nil))))))))⟩
def f_Caller_is_first : Fn := ⟨2, 6,
  (.cons (.asg (.nm 2) (.fld (.ix (.fld (.var 0) "calls") (.var 1)) "key"))
  (.cons (.asg (.nm 3) (.comp false (.ix (.fld (.var 0) "calls") (.var 4)) (.nm 4) (.rng2 (.con (.int 1)) (.var 1)) (.cons (.cmp .Eq (.fld (.ix (.fld (.var 0) "calls") (.var 4)) "key") (.var 2)) .nil) [5, 4]))
  (.cons (.ret (.bi .all (.cons (.comp false (.cmp .In (.fld (.var 4) "word") (.tup (.cons (.con (.str "done")) (.cons (.con (.str "gone")) .nil)))) (.nm 4) (.seq (.var 3)) .nil [5, 4]) .nil)))
  .nil)))⟩
def f_Caller_busy : Fn := ⟨2, 6,
  (.cons (.asg (.nm 2) (.comp false (.ix (.fld (.var 0) "calls") (.var 3)) (.nm 3) (.seq (.fld (.var 0) "calls")) .nil [5, 3]))
  (.cons (.ret (.bi .len (.cons (.comp false (.var 4) (.nm 4) (.seq (.var 2)) (.cons (.and (.cmp .Eq (.fld (.var 4) "word") (.con (.str "tried"))) (.cmp .Eq (.fld (.var 4) "place") (.var 1))) .nil) [5, 4]) .nil)))
  .nil))⟩
def f_Caller_due : Fn := ⟨1, 4,
  (.cons (.asg (.nm 1) (.lst true .nil))
  (.cons (.fo (.nm 2) (.seq (.meth (.var 0) "numbers" .nil)) (.cons (.asg (.nm 3) (.ix (.fld (.var 0) "calls") (.var 2)))
    (.cons (.ife (.and (.cmp .Eq (.fld (.var 3) "word") (.con (.str "waits"))) (.and (.cmp .LtE (.fld (.var 3) "time") (.fld (.var 0) "clock")) (.meth (.var 0) "is_first" (.cons (.var 2) .nil)))) (.cons (.ife (.cmp .Lt (.meth (.var 0) "busy" (.cons (.meth (.var 0) "end_of" (.cons (.fld (.var 3) "goal") .nil)) .nil)) (.ix (.fld (.var 0) "rule") (.con (.int 5)))) (.cons (.exp (.bm (.var 1) .append (.cons (.var 2) .nil)))
        .nil) .nil)
      .nil) .nil)
    .nil)))
  (.cons (.ret (.var 1))
  .nil)))⟩
def f_Caller_begin : Fn := ⟨2, 3,
  (.cons (.asg (.nm 2) (.ix (.fld (.var 0) "calls") (.var 1)))
  (.cons (.asg (.fl (.var 2) "word") (.con (.str "tried")))
  (.cons (.asg (.fl (.var 2) "time") (.fld (.var 0) "clock"))
  (.cons (.asg (.fl (.var 2) "place") (.meth (.var 0) "end_of" (.cons (.fld (.var 2) "goal") .nil)))
  (.cons (.asg (.fl (.var 2) "many") (.bin .Add (.fld (.var 2) "many") (.con (.int 1))))
  (.cons (.exp (.meth (.var 0) "say" (.cons (.var 1) (.cons (.con (.str "tried")) .nil))))
  (.cons (.ret (.tup (.cons (.var 1) (.cons (.bin .Add (.con (.str "m")) (.bi .str (.cons (.var 1) .nil))) (.cons (.fld (.var 2) "place") (.cons (.fld (.var 2) "key") (.cons (.fld (.var 2) "text") .nil)))))))
  .nil)))))))⟩
def f_Caller_attempt : Fn := ⟨1, 2,
  (.cons (.asg (.nm 1) (.meth (.var 0) "due" .nil))
  (.cons (.ife (.cmp .Eq (.var 1) (.lst false .nil)) (.cons (.ret (.con .non))
    .nil) .nil)
  (.cons (.ret (.meth (.var 0) "begin" (.cons (.ix (.var 1) (.con (.int 0))) .nil)))
  .nil)))⟩
def f_Caller_fail : Fn := ⟨2, 3,
  (.cons (.asg (.nm 2) (.ix (.fld (.var 0) "calls") (.var 1)))
  (.cons (.asg (.fl (.var 2) "fails") (.bin .Add (.fld (.var 2) "fails") (.con (.int 1))))
  (.cons (.ife (.cmp .GtE (.fld (.var 2) "fails") (.ix (.fld (.var 0) "rule") (.con (.int 3)))) (.cons (.asg (.fl (.var 2) "word") (.con (.str "put by")))
    (.cons (.exp (.meth (.var 0) "say" (.cons (.var 1) (.cons (.con (.str "put by")) .nil))))
    .nil)) (.cons (.asg (.fl (.var 2) "word") (.con (.str "waits")))
    (.cons (.asg (.fl (.var 2) "time") (.bin .Add (.fld (.var 0) "clock") (.call "wait_of" (.cons (.fld (.var 0) "rule") (.cons (.fld (.var 2) "fails") .nil)))))
    (.cons (.exp (.meth (.var 0) "say" (.cons (.var 1) (.cons (.con (.str "later")) .nil))))
    .nil))))
  .nil)))⟩
def f_Caller_answer (gn : Str) : Fn := ⟨3, 4,
  (.cons (.asg (.nm 3) (.meth (.var 0) "call" (.cons (.var 1) .nil)))
  (.cons (.ife (.or (.not (.isi (.var 2) .str)) (.or (.cmp .NotIn (.var 2) (.glo gn (.tup [(.str "good"), (.str "later"), (.str "never")]))) (.cmp .NotEq (.fld (.var 3) "word") (.con (.str "tried"))))) (.cons (.rai "BadCall")
    .nil) .nil)
  (.cons (.ife (.cmp .Eq (.var 2) (.con (.str "later"))) (.cons (.exp (.meth (.var 0) "fail" (.cons (.var 1) .nil)))
    .nil) (.cons (.asg (.fl (.var 3) "word") (.ite (.cmp .Eq (.var 2) (.con (.str "good"))) (.con (.str "done")) (.con (.str "put by"))))
    (.cons (.exp (.meth (.var 0) "say" (.cons (.var 1) (.cons (.fld (.var 3) "word") .nil))))
    .nil)))
  .nil)))⟩
def f_Caller_tick (gn : Str) : Fn := ⟨2, 5,
  (.cons (.ife (.not (.call "is_count" (.cons (.var 1) (.cons (.con (.int 0)) (.cons (.glo gn (.int 100)) .nil))))) (.cons (.rai "BadTime")
    .nil) .nil)
  (.cons (.fo (.nm 2) (.rng1 (.var 1)) (.cons (.asg (.fl (.var 0) "clock") (.bin .Add (.fld (.var 0) "clock") (.con (.int 1))))
    (.cons (.fo (.nm 3) (.seq (.meth (.var 0) "numbers" .nil)) (.cons (.asg (.nm 4) (.ix (.fld (.var 0) "calls") (.var 3)))
      (.cons (.ife (.and (.cmp .Eq (.fld (.var 4) "word") (.con (.str "tried"))) (.cmp .GtE (.bin .Sub (.fld (.var 0) "clock") (.fld (.var 4) "time")) (.ix (.fld (.var 0) "rule") (.con (.int 4))))) (.cons (.exp (.meth (.var 0) "fail" (.cons (.var 3) .nil)))
        .nil) .nil)
      .nil)))
    .nil)))
  .nil))⟩
def f_Caller_now : Fn := ⟨1, 1,
  (.cons (.ret (.fld (.var 0) "clock"))
  .nil)⟩
def f_Caller_log : Fn := ⟨1, 1,
  (.cons (.ret (.bi .list (.cons (.fld (.var 0) "rows") .nil)))
  .nil)⟩
def f_Caller_lead : Fn := ⟨3, 3,
  (.cons (.exp (.meth (.var 0) "need_address" (.cons (.var 1) .nil)))
  (.cons (.exp (.meth (.var 0) "need_address" (.cons (.var 2) .nil)))
  (.cons (.ife (.and (.cmp .NotEq (.var 1) (.var 2)) (.cmp .In (.var 1) (.meth (.var 0) "road" (.cons (.var 2) .nil)))) (.cons (.rai "BadName")
    .nil) .nil)
  (.cons (.asg (.sb (.fld (.var 0) "roads") (.var 1)) (.var 2))
  .nil))))⟩
def f_Caller_state : Fn := ⟨2, 2,
  (.cons (.ret (.fld (.meth (.var 0) "call" (.cons (.var 1) .nil)) "word"))
  .nil)⟩
def f_Caller_tries : Fn := ⟨2, 2,
  (.cons (.ret (.fld (.meth (.var 0) "call" (.cons (.var 1) .nil)) "many"))
  .nil)⟩
def f_Caller_time_of : Fn := ⟨2, 3,
  (.cons (.asg (.nm 2) (.meth (.var 0) "call" (.cons (.var 1) .nil)))
  (.cons (.ife (.cmp .Eq (.fld (.var 2) "word") (.con (.str "waits"))) (.cons (.ret (.fld (.var 2) "time"))
    .nil) .nil)
  (.cons (.ret (.ite (.cmp .Eq (.fld (.var 2) "word") (.con (.str "tried"))) (.bin .Add (.fld (.var 2) "time") (.ix (.fld (.var 0) "rule") (.con (.int 4)))) (.con .non)))
  .nil)))⟩
def f_Caller_go_on : Fn := ⟨2, 3,
  (.cons (.asg (.nm 2) (.meth (.var 0) "call" (.cons (.var 1) .nil)))
  (.cons (.ife (.cmp .NotEq (.fld (.var 2) "word") (.con (.str "put by"))) (.cons (.rai "BadCall")
    .nil) .nil)
  (.cons (.asg (.fl (.var 2) "word") (.con (.str "waits")))
  (.cons (.asg (.fl (.var 2) "fails") (.con (.int 0)))
  (.cons (.asg (.fl (.var 2) "time") (.fld (.var 0) "clock"))
  (.cons (.exp (.meth (.var 0) "say" (.cons (.var 1) (.cons (.con (.str "sent")) .nil))))
  .nil))))))⟩
def f_Caller_drop : Fn := ⟨2, 3,
  (.cons (.asg (.nm 2) (.meth (.var 0) "call" (.cons (.var 1) .nil)))
  (.cons (.ife (.cmp .NotIn (.fld (.var 2) "word") (.tup (.cons (.con (.str "waits")) (.cons (.con (.str "put by")) .nil)))) (.cons (.rai "BadCall")
    .nil) .nil)
  (.cons (.asg (.fl (.var 2) "word") (.con (.str "gone")))
  (.cons (.exp (.meth (.var 0) "say" (.cons (.var 1) (.cons (.con (.str "gone")) .nil))))
  .nil))))⟩
def f_Caller_change : Fn := ⟨3, 4,
  (.cons (.asg (.nm 3) (.meth (.var 0) "call" (.cons (.var 1) .nil)))
  (.cons (.exp (.meth (.var 0) "need_address" (.cons (.var 2) .nil)))
  (.cons (.ife (.cmp .NotIn (.fld (.var 3) "word") (.tup (.cons (.con (.str "waits")) (.cons (.con (.str "put by")) .nil)))) (.cons (.rai "BadCall")
    .nil) .nil)
  (.cons (.asg (.fl (.var 3) "goal") (.var 2))
  .nil))))⟩
def f_Guard___init__ : Fn := ⟨4, 4,
  (.cons (.ife (.or (.not (.call "is_count" (.cons (.var 2) (.cons (.con (.int 1)) (.cons (.glo "MOST_FAILS" (.int 5)) .nil))))) (.not (.call "is_count" (.cons (.var 3) (.cons (.con (.int 1)) (.cons (.glo "MOST_REST" (.int 50)) .nil)))))) (.cons (.rai "BadRule")
    .nil) .nil)
  (.cons (.asg (.fl (.var 0) "caller") (.var 1))
  (.cons (.asg (.fl (.var 0) "most") (.var 2))
  (.cons (.asg (.fl (.var 0) "rest") (.var 3))
  (.cons (.asg (.fl (.var 0) "counts") (.dic .nil))
  (.cons (.asg (.fl (.var 0) "since") (.dic .nil))
  .nil))))))⟩
def f_Guard_in_row : Fn := ⟨2, 2,
  (.cons (.exp (.meth (.fld (.var 0) "caller") "need_address" (.cons (.var 1) .nil)))
  (.cons (.ret (.bm (.fld (.var 0) "counts") .get (.cons (.var 1) (.cons (.con (.int 0)) .nil))))
  .nil))⟩
def f_Guard_wakes : Fn := ⟨2, 3,
  (.cons (.exp (.meth (.fld (.var 0) "caller") "need_address" (.cons (.var 1) .nil)))
  (.cons (.ife (.cmp .Lt (.bm (.fld (.var 0) "counts") .get (.cons (.var 1) (.cons (.con (.int 0)) .nil))) (.fld (.var 0) "most")) (.cons (.ret (.con .non))
    .nil) .nil)
  (.cons (.asg (.nm 2) (.bin .Add (.ix (.fld (.var 0) "since") (.var 1)) (.fld (.var 0) "rest")))
  (.cons (.ret (.ite (.cmp .Gt (.var 2) (.meth (.fld (.var 0) "caller") "now" .nil)) (.var 2) (.con .non)))
  .nil))))⟩
def f_Guard_stands : Fn := ⟨2, 2,
  (.cons (.ife (.cmp .Lt (.meth (.var 0) "in_row" (.cons (.var 1) .nil)) (.fld (.var 0) "most")) (.cons (.ret (.con (.str "open")))
    .nil) .nil)
  (.cons (.ret (.ite (.cmp .Is (.meth (.var 0) "wakes" (.cons (.var 1) .nil)) (.con .non)) (.con (.str "trial")) (.con (.str "shut"))))
  .nil))⟩
def f_Guard_note : Fn := ⟨3, 3,
  (.cons (.ife (.var 2) (.cons (.asg (.sb (.fld (.var 0) "counts") (.var 1)) (.con (.int 0)))
    .nil) (.cons (.asg (.sb (.fld (.var 0) "counts") (.var 1)) (.bin .Add (.bm (.fld (.var 0) "counts") .get (.cons (.var 1) (.cons (.con (.int 0)) .nil))) (.con (.int 1))))
    (.cons (.asg (.sb (.fld (.var 0) "since") (.var 1)) (.meth (.fld (.var 0) "caller") "now" .nil))
    .nil)))
  .nil)⟩
def f_Guard_lets : Fn := ⟨2, 4,
  (.cons (.asg (.nm 2) (.meth (.fld (.var 0) "caller") "end_of" (.cons (.fld (.ix (.fld (.fld (.var 0) "caller") "calls") (.var 1)) "goal") .nil)))
  (.cons (.asg (.nm 3) (.meth (.var 0) "stands" (.cons (.var 2) .nil)))
  (.cons (.ret (.or (.cmp .Eq (.var 3) (.con (.str "open"))) (.and (.cmp .Eq (.var 3) (.con (.str "trial"))) (.cmp .Eq (.meth (.fld (.var 0) "caller") "busy" (.cons (.var 2) .nil)) (.con (.int 0))))))
  .nil)))⟩
def f_Guard_due : Fn := ⟨1, 3,
  (.cons (.ret (.comp false (.var 1) (.nm 1) (.seq (.meth (.fld (.var 0) "caller") "due" .nil)) (.cons (.meth (.var 0) "lets" (.cons (.var 1) .nil)) .nil) [2, 1]))
  .nil)⟩
def f_Guard_attempt : Fn := ⟨1, 2,
  (.cons (.asg (.nm 1) (.meth (.var 0) "due" .nil))
  (.cons (.ret (.ite (.cmp .NotEq (.var 1) (.lst false .nil)) (.meth (.fld (.var 0) "caller") "begin" (.cons (.ix (.var 1) (.con (.int 0))) .nil)) (.con .non)))
  .nil))⟩
def f_Guard_answer (gn : Str) : Fn := ⟨3, 5,
  (.cons (.asg (.nm 3) (.meth (.fld (.var 0) "caller") "call" (.cons (.var 1) .nil)))
  (.cons (.asg (.nm 4) (.and (.cmp .Eq (.fld (.var 3) "word") (.con (.str "tried"))) (.and (.isi (.var 2) .str) (.cmp .In (.var 2) (.glo gn (.tup [(.str "good"), (.str "later"), (.str "never")]))))))
  (.cons (.exp (.meth (.fld (.var 0) "caller") "answer" (.cons (.var 1) (.cons (.var 2) .nil))))
  (.cons (.ife (.var 4) (.cons (.exp (.meth (.var 0) "note" (.cons (.fld (.var 3) "place") (.cons (.cmp .Eq (.var 2) (.con (.str "good"))) .nil))))
    .nil) .nil)
  .nil))))⟩
def f_Guard_tick : Fn := ⟨2, 6,
  (.cons (.ife (.or (.cmp .Eq (.var 1) (.con (.int 0))) (.not (.call "is_count" (.cons (.var 1) (.cons (.con (.int 0)) (.cons (.con (.int 100)) .nil)))))) (.cons (.exp (.meth (.fld (.var 0) "caller") "tick" (.cons (.var 1) .nil)))
    (.cons .ret0
    .nil)) .nil)
  (.cons (.fo (.nm 2) (.rng1 (.var 1)) (.cons (.asg (.nm 3) (.comp false (.var 4) (.nm 4) (.seq (.meth (.fld (.var 0) "caller") "numbers" .nil)) (.cons (.cmp .Eq (.meth (.fld (.var 0) "caller") "state" (.cons (.var 4) .nil)) (.con (.str "tried"))) .nil) [5, 4]))
    (.cons (.exp (.meth (.fld (.var 0) "caller") "tick" (.cons (.con (.int 1)) .nil)))
    (.cons (.fo (.nm 4) (.seq (.var 3)) (.cons (.ife (.cmp .NotEq (.meth (.fld (.var 0) "caller") "state" (.cons (.var 4) .nil)) (.con (.str "tried"))) (.cons (.exp (.meth (.var 0) "note" (.cons (.fld (.ix (.fld (.fld (.var 0) "caller") "calls") (.var 4)) "place") (.cons (.con (.bl false)) .nil))))
        .nil) .nil)
      .nil))
    .nil))))
  .nil))⟩
def f__law_cell : Fn := ⟨2, 2,
  (.cons (.ife (.cmp .Eq (.var 0) (.lst false .nil)) (.cons (.ret (.bin .Mult (.var 1) (.con (.int 7919))))
    .nil) .nil)
  (.cons (.ret (.bin .Add (.ix (.var 0) (.bin .Mod (.var 1) (.bi .len (.cons (.var 0) .nil)))) (.bin .Mult (.bin .FloorDiv (.var 1) (.bi .len (.cons (.var 0) .nil))) (.con (.int 104729)))))
  .nil))⟩
def f__law_drawn : Fn := ⟨2, 3,
  (.cons (.asg (.nm 2) (.bin .Mod (.bin .Add (.bin .Mult (.var 0) (.con (.int 6364136223846793005))) (.bin .Mult (.bin .Add (.var 1) (.con (.int 1))) (.con (.int 1442695040888963407)))) (.con (.int 340282366920938463463374607431768211507))))
  (.cons (.asg (.nm 2) (.bin .Mod (.bin .Mult (.var 2) (.var 2)) (.con (.int 340282366920938463463374607431768211297))))
  (.cons (.asg (.nm 2) (.bin .Mult (.bin .Mult (.bin .Add (.bin .Mod (.var 2) (.con (.int 18446744073709551557))) (.con (.int 1))) (.bin .Add (.bin .FloorDiv (.var 2) (.con (.int 18446744073709551557))) (.con (.int 1)))) (.var 2)))
  (.cons (.ret (.bin .Mod (.var 2) (.con (.int 340282366920938463463374607431768211507))))
  .nil))))⟩
def f__law_rule : Fn := ⟨1, 9,
  (.cons (.asg (.nm 1) (.lst false (.cons (.tup (.cons (.con (.int 1)) (.cons (.con (.int 9)) .nil))) (.cons (.tup (.cons (.con (.int 1)) (.cons (.con (.int 3)) .nil))) (.cons (.tup (.cons (.con (.int 1)) (.cons (.con (.int 60)) .nil))) (.cons (.tup (.cons (.con (.int 1)) (.cons (.con (.int 5)) .nil))) (.cons (.tup (.cons (.con (.int 1)) (.cons (.con (.int 20)) .nil))) (.cons (.tup (.cons (.con (.int 1)) (.cons (.con (.int 3)) .nil))) .nil))))))))
  (.cons (.asg (.nm 2) (.lst true .nil))
  (.cons (.fo (.tp (.cons (.nm 3) (.cons (.tp (.cons (.nm 5) (.cons (.nm 6) .nil))) .nil))) (.enu (.var 1)) (.cons (.asg (.nm 4) (.call "_law_drawn" (.cons (.var 0) (.cons (.var 3) .nil))))
    (.cons (.exp (.bm (.var 2) .append (.cons (.ix (.lst false (.cons (.var 5) (.cons (.var 6) (.cons (.bin .Add (.var 5) (.bin .Mod (.bin .FloorDiv (.var 4) (.con (.int 4))) (.bin .Add (.bin .Sub (.var 6) (.var 5)) (.con (.int 1))))) (.cons (.bin .Add (.var 5) (.bin .Mod (.bin .FloorDiv (.var 4) (.con (.int 4))) (.con (.int 3)))) .nil))))) (.bin .Mod (.var 4) (.con (.int 4)))) .nil)))
    .nil)))
  (.cons (.ret (.bi .tuple (.cons (.comp false (.bi .min (.cons (.var 7) (.cons (.var 6) .nil))) (.tp (.cons (.nm 7) (.cons (.tp (.cons (.nm 5) (.cons (.nm 6) .nil))) .nil))) (.zip (.var 2) (.var 1)) .nil [8, 7, 5, 6]) .nil)))
  .nil))))⟩
def f__law_any_name : Fn := ⟨2, 4,
  (.cons (.ret (.bm (.con (.str "")) .join (.cons (.comp false (.ix (.con (.str "abcdefghijklmnopqrstuvwxyz")) (.bin .Mod (.call "_law_drawn" (.cons (.var 0) (.cons (.var 2) .nil))) (.con (.int 26)))) (.nm 2) (.rng1 (.bin .Add (.con (.int 1)) (.bin .Mod (.var 0) (.var 1)))) .nil [3, 2]) .nil)))
  .nil)⟩
def f__law_any_text : Fn := ⟨2, 5,
  (.cons (.asg (.nm 2) (.con (.str " !\"#$&'()*+,-./0123456789:;<=>?@ABCDEFGHIJKLMNOPQRSTUVWXYZ[\\]^_`abcdefghijklmnopqrstuvwxyz{|}~")))
  (.cons (.ret (.bm (.con (.str "")) .join (.cons (.comp false (.ix (.var 2) (.bin .Mod (.call "_law_drawn" (.cons (.var 0) (.cons (.var 3) .nil))) (.con (.int 94)))) (.nm 3) (.rng1 (.bin .Mod (.var 0) (.bin .Add (.var 1) (.con (.int 1))))) .nil [4, 3]) .nil)))
  .nil))⟩
def f__law_wait : Fn := ⟨2, 4,
  (.cons (.asg (.nm 2) (.ix (.var 0) (.con (.int 0))))
  (.cons (.fo (.nm 3) (.rng2 (.con (.int 1)) (.var 1)) (.cons (.asg (.nm 2) (.bin .Mult (.var 2) (.ix (.var 0) (.con (.int 1)))))
    .nil))
  (.cons (.ret (.ix (.bi .sorted (.cons (.lst false (.cons (.var 2) (.cons (.ix (.var 0) (.con (.int 2))) .nil))) .nil)) (.con (.int 0))))
  .nil)))⟩
def f__law_own : Fn := ⟨1, 1,
  (.cons (.ret (.dic (.cons (.con (.str "rule")) (.cons (.var 0) (.cons (.con (.str "now")) (.cons (.con (.int 0)) (.cons (.con (.str "roads")) (.cons (.dic .nil) (.cons (.con (.str "calls")) (.cons (.lst true .nil) (.cons (.con (.str "log")) (.cons (.lst true .nil) .nil))))))))))))
  .nil)⟩
def f__law_real : Fn := ⟨2, 2,
  (.cons (.wh (.cmp .NotEq (.ix (.ix (.var 0) (.con (.str "roads"))) (.var 1)) (.var 1)) (.cons (.asg (.nm 1) (.ix (.ix (.var 0) (.con (.str "roads"))) (.var 1)))
    .nil))
  (.cons (.ret (.var 1))
  .nil))⟩
def f__law_may : Fn := ⟨2, 8,
  (.cons (.asg (.nm 2) (.ix (.ix (.var 0) (.con (.str "calls"))) (.bin .Sub (.var 1) (.con (.int 1)))))
  (.cons (.ife (.or (.cmp .NotEq (.ix (.var 2) (.con (.str "word"))) (.con (.str "waits"))) (.cmp .Gt (.ix (.var 2) (.con (.str "time"))) (.ix (.var 0) (.con (.str "now"))))) (.cons (.ret (.con (.bl false)))
    .nil) .nil)
  (.cons (.asg (.nm 3) (.comp false (.ix (.var 5) (.con (.str "word"))) (.nm 5) (.seq (.sl (.ix (.var 0) (.con (.str "calls"))) .nil (.cons (.bin .Sub (.var 1) (.con (.int 1))) .nil))) (.cons (.cmp .Eq (.ix (.var 5) (.con (.str "key"))) (.ix (.var 2) (.con (.str "key")))) .nil) [7, 5]))
  (.cons (.ife (.cmp .Gt (.bi .len (.cons (.comp false (.var 6) (.nm 6) (.seq (.var 3)) (.cons (.cmp .NotIn (.var 6) (.tup (.cons (.con (.str "done")) (.cons (.con (.str "gone")) .nil)))) .nil) [7, 6]) .nil)) (.con (.int 0))) (.cons (.ret (.con (.bl false)))
    .nil) .nil)
  (.cons (.asg (.nm 4) (.call "_law_real" (.cons (.var 0) (.cons (.ix (.var 2) (.con (.str "goal"))) .nil))))
  (.cons (.ret (.cmp .Lt (.bi .len (.cons (.comp false (.var 5) (.nm 5) (.seq (.ix (.var 0) (.con (.str "calls")))) (.cons (.and (.cmp .Eq (.ix (.var 5) (.con (.str "word"))) (.con (.str "tried"))) (.cmp .Eq (.ix (.var 5) (.con (.str "place"))) (.var 4))) .nil) [7, 5]) .nil)) (.ix (.ix (.var 0) (.con (.str "rule"))) (.con (.int 5)))))
  .nil))))))⟩
def f__law_due : Fn := ⟨1, 3,
  (.cons (.ret (.comp false (.var 1) (.nm 1) (.rng2 (.con (.int 1)) (.bin .Add (.bi .len (.cons (.ix (.var 0) (.con (.str "calls"))) .nil)) (.con (.int 1)))) (.cons (.call "_law_may" (.cons (.var 0) (.cons (.var 1) .nil))) .nil) [2, 1]))
  .nil)⟩
def f__law_fail : Fn := ⟨2, 3,
  (.cons (.asg (.nm 2) (.ix (.ix (.var 0) (.con (.str "calls"))) (.bin .Sub (.var 1) (.con (.int 1)))))
  (.cons (.asg (.sb (.var 2) (.con (.str "fails"))) (.bin .Add (.ix (.var 2) (.con (.str "fails"))) (.con (.int 1))))
  (.cons (.asg (.sb (.var 2) (.con (.str "word"))) (.ite (.cmp .Eq (.ix (.var 2) (.con (.str "fails"))) (.ix (.ix (.var 0) (.con (.str "rule"))) (.con (.int 3)))) (.con (.str "put by")) (.con (.str "waits"))))
  (.cons (.exp (.bm (.ix (.var 0) (.con (.str "log"))) .append (.cons (.tup (.cons (.ix (.var 0) (.con (.str "now"))) (.cons (.var 1) (.cons (.ite (.cmp .Eq (.ix (.var 2) (.con (.str "word"))) (.con (.str "put by"))) (.con (.str "put by")) (.con (.str "later"))) .nil)))) .nil)))
  (.cons (.ife (.cmp .Eq (.ix (.var 2) (.con (.str "word"))) (.con (.str "waits"))) (.cons (.asg (.sb (.var 2) (.con (.str "time"))) (.bin .Add (.ix (.var 0) (.con (.str "now"))) (.call "_law_wait" (.cons (.ix (.var 0) (.con (.str "rule"))) (.cons (.ix (.var 2) (.con (.str "fails"))) .nil)))))
    .nil) .nil)
  .nil)))))⟩
def f__law_send : Fn := ⟨4, 5,
  (.cons (.ife (.cmp .NotIn (.var 2) (.ix (.var 0) (.con (.str "roads")))) (.cons (.ret (.tup (.cons (.con (.str "refused")) (.cons (.con (.str "BadName")) .nil))))
    .nil) .nil)
  (.cons (.ife (.cmp .Eq (.bi .len (.cons (.ix (.var 0) (.con (.str "calls"))) .nil)) (.con (.int 30))) (.cons (.ret (.tup (.cons (.con (.str "refused")) (.cons (.con (.str "Full")) .nil))))
    .nil) .nil)
  (.cons (.asg (.nm 4) (.dic (.cons (.con (.str "key")) (.cons (.var 1) (.cons (.con (.str "goal")) (.cons (.var 2) (.cons (.con (.str "place")) (.cons (.var 2) (.cons (.con (.str "text")) (.cons (.var 3) (.cons (.con (.str "word")) (.cons (.con (.str "waits")) (.cons (.con (.str "fails")) (.cons (.con (.int 0)) (.cons (.con (.str "many")) (.cons (.con (.int 0)) .nil))))))))))))))))
  (.cons (.asg (.sb (.var 4) (.con (.str "time"))) (.ix (.var 0) (.con (.str "now"))))
  (.cons (.exp (.bm (.ix (.var 0) (.con (.str "calls"))) .append (.cons (.var 4) .nil)))
  (.cons (.exp (.bm (.ix (.var 0) (.con (.str "log"))) .append (.cons (.tup (.cons (.ix (.var 0) (.con (.str "now"))) (.cons (.bi .len (.cons (.ix (.var 0) (.con (.str "calls"))) .nil)) (.cons (.con (.str "sent")) .nil)))) .nil)))
  (.cons (.ret (.bi .len (.cons (.ix (.var 0) (.con (.str "calls"))) .nil)))
  .nil)))))))⟩
def f__law_try : Fn := ⟨1, 3,
  (.cons (.asg (.nm 1) (.call "_law_due" (.cons (.var 0) .nil)))
  (.cons (.ife (.cmp .Eq (.var 1) (.lst false .nil)) (.cons (.ret (.con .non))
    .nil) .nil)
  (.cons (.asg (.nm 2) (.ix (.ix (.var 0) (.con (.str "calls"))) (.bin .Sub (.ix (.var 1) (.con (.int 0))) (.con (.int 1)))))
  (.cons (.asg (.tp (.cons (.sb (.var 2) (.con (.str "word"))) (.cons (.sb (.var 2) (.con (.str "time"))) (.cons (.sb (.var 2) (.con (.str "place"))) .nil)))) (.tup (.cons (.con (.str "tried")) (.cons (.ix (.var 0) (.con (.str "now"))) (.cons (.call "_law_real" (.cons (.var 0) (.cons (.ix (.var 2) (.con (.str "goal"))) .nil))) .nil)))))
  (.cons (.asg (.sb (.var 2) (.con (.str "many"))) (.bin .Add (.ix (.var 2) (.con (.str "many"))) (.con (.int 1))))
  (.cons (.exp (.bm (.ix (.var 0) (.con (.str "log"))) .append (.cons (.tup (.cons (.ix (.var 0) (.con (.str "now"))) (.cons (.ix (.var 1) (.con (.int 0))) (.cons (.con (.str "tried")) .nil)))) .nil)))
  (.cons (.ret (.tup (.cons (.ix (.var 1) (.con (.int 0))) (.cons (.bin .Add (.con (.str "m")) (.bi .str (.cons (.ix (.var 1) (.con (.int 0))) .nil))) (.cons (.ix (.var 2) (.con (.str "place"))) (.cons (.ix (.var 2) (.con (.str "key"))) (.cons (.ix (.var 2) (.con (.str "text"))) .nil)))))))
  .nil)))))))⟩
def f__law_tick : Fn := ⟨2, 5,
  (.cons (.fo (.nm 2) (.rng1 (.var 1)) (.cons (.asg (.sb (.var 0) (.con (.str "now"))) (.bin .Add (.ix (.var 0) (.con (.str "now"))) (.con (.int 1))))
    (.cons (.fo (.nm 3) (.rng2 (.con (.int 1)) (.bin .Add (.bi .len (.cons (.ix (.var 0) (.con (.str "calls"))) .nil)) (.con (.int 1)))) (.cons (.asg (.nm 4) (.ix (.ix (.var 0) (.con (.str "calls"))) (.bin .Sub (.var 3) (.con (.int 1)))))
      (.cons (.ife (.and (.cmp .Eq (.ix (.var 4) (.con (.str "word"))) (.con (.str "tried"))) (.cmp .Eq (.bin .Sub (.ix (.var 0) (.con (.str "now"))) (.ix (.var 4) (.con (.str "time")))) (.ix (.ix (.var 0) (.con (.str "rule"))) (.con (.int 4))))) (.cons (.exp (.call "_law_fail" (.cons (.var 0) (.cons (.var 3) .nil))))
        .nil) .nil)
      .nil)))
    .nil)))
  .nil)⟩
def f__law_hand : Fn := ⟨4, 7,
  (.cons (.asg (.nm 4) (.tup (.cons (.con (.str "refused")) (.cons (.con (.str "BadCall")) .nil))))
  (.cons (.ife (.not (.chn .LtE .LtE (.con (.int 1)) (.var 2) (.bi .len (.cons (.ix (.var 0) (.con (.str "calls"))) .nil)))) (.cons (.ret (.var 4))
    .nil) .nil)
  (.cons (.asg (.nm 5) (.ix (.ix (.var 0) (.con (.str "calls"))) (.bin .Sub (.var 2) (.con (.int 1)))))
  (.cons (.ife (.and (.cmp .Eq (.var 1) (.con (.str "change"))) (.cmp .NotIn (.var 3) (.ix (.var 0) (.con (.str "roads"))))) (.cons (.ret (.tup (.cons (.con (.str "refused")) (.cons (.con (.str "BadName")) .nil))))
    .nil) .nil)
  (.cons (.asg (.nm 6) (.bm (.dic (.cons (.con (.str "go on")) (.cons (.lst false (.cons (.con (.str "put by")) .nil)) (.cons (.con (.str "drop")) (.cons (.lst false (.cons (.con (.str "waits")) (.cons (.con (.str "put by")) .nil))) (.cons (.con (.str "change")) (.cons (.lst false (.cons (.con (.str "waits")) (.cons (.con (.str "put by")) .nil))) .nil))))))) .get (.cons (.var 1) (.cons (.lst false (.cons (.con (.str "tried")) .nil)) .nil))))
  (.cons (.ife (.cmp .NotIn (.ix (.var 5) (.con (.str "word"))) (.var 6)) (.cons (.ret (.var 4))
    .nil) .nil)
  (.cons (.ife (.cmp .Eq (.var 1) (.con (.str "change"))) (.cons (.asg (.sb (.var 5) (.con (.str "goal"))) (.var 3))
    .nil) (.cons (.ife (.cmp .Eq (.var 1) (.con (.str "later"))) (.cons (.exp (.call "_law_fail" (.cons (.var 0) (.cons (.var 2) .nil))))
      .nil) (.cons (.asg (.sb (.var 5) (.con (.str "word"))) (.ix (.dic (.cons (.con (.str "go on")) (.cons (.con (.str "waits")) (.cons (.con (.str "drop")) (.cons (.con (.str "gone")) (.cons (.con (.str "good")) (.cons (.con (.str "done")) (.cons (.con (.str "never")) (.cons (.con (.str "put by")) .nil))))))))) (.var 1)))
      (.cons (.exp (.bm (.ix (.var 0) (.con (.str "log"))) .append (.cons (.tup (.cons (.ix (.var 0) (.con (.str "now"))) (.cons (.var 2) (.cons (.ite (.cmp .Eq (.var 1) (.con (.str "go on"))) (.con (.str "sent")) (.ix (.var 5) (.con (.str "word")))) .nil)))) .nil)))
      (.cons (.ife (.cmp .Eq (.var 1) (.con (.str "go on"))) (.cons (.asg (.tp (.cons (.sb (.var 5) (.con (.str "fails"))) (.cons (.sb (.var 5) (.con (.str "time"))) .nil))) (.tup (.cons (.con (.int 0)) (.cons (.ix (.var 0) (.con (.str "now"))) .nil))))
        .nil) .nil)
      .nil))))
    .nil))
  (.cons (.ret (.con .non))
  .nil))))))))⟩
def f__law_lead : Fn := ⟨3, 4,
  (.cons (.ife (.or (.cmp .NotIn (.var 1) (.ix (.var 0) (.con (.str "roads")))) (.cmp .NotIn (.var 2) (.ix (.var 0) (.con (.str "roads"))))) (.cons (.ret (.tup (.cons (.con (.str "refused")) (.cons (.con (.str "BadName")) .nil))))
    .nil) .nil)
  (.cons (.asg (.nm 3) (.var 2))
  (.cons (.wh (.and (.cmp .NotEq (.var 1) (.var 2)) (.and (.cmp .NotEq (.var 3) (.var 1)) (.cmp .NotEq (.ix (.ix (.var 0) (.con (.str "roads"))) (.var 3)) (.var 3)))) (.cons (.asg (.nm 3) (.ix (.ix (.var 0) (.con (.str "roads"))) (.var 3)))
    .nil))
  (.cons (.ife (.and (.cmp .NotEq (.var 1) (.var 2)) (.cmp .Eq (.var 3) (.var 1))) (.cons (.ret (.tup (.cons (.con (.str "refused")) (.cons (.con (.str "BadName")) .nil))))
    .nil) .nil)
  (.cons (.asg (.sb (.ix (.var 0) (.con (.str "roads"))) (.var 1)) (.var 2))
  (.cons (.ret (.con .non))
  .nil))))))⟩
def f__law_own_does : Fn := ⟨2, 3,
  (.cons (.asg (.nm 2) (.ix (.var 1) (.con (.int 0))))
  (.cons (.ife (.cmp .Eq (.var 2) (.con (.str "send"))) (.cons (.ret (.call "_law_send" (.cons (.var 0) (.cons (.ix (.var 1) (.con (.int 1))) (.cons (.ix (.var 1) (.con (.int 2))) (.cons (.ix (.var 1) (.con (.int 3))) .nil))))))
    .nil) .nil)
  (.cons (.ife (.cmp .Eq (.var 2) (.con (.str "try"))) (.cons (.ret (.call "_law_try" (.cons (.var 0) .nil)))
    .nil) .nil)
  (.cons (.ife (.cmp .Eq (.var 2) (.con (.str "tick"))) (.cons (.ret (.call "_law_tick" (.cons (.var 0) (.cons (.ix (.var 1) (.con (.int 1))) .nil))))
    .nil) .nil)
  (.cons (.ife (.cmp .Eq (.var 2) (.con (.str "lead"))) (.cons (.ret (.call "_law_lead" (.cons (.var 0) (.cons (.ix (.var 1) (.con (.int 1))) (.cons (.ix (.var 1) (.con (.int 2))) .nil)))))
    .nil) .nil)
  (.cons (.ife (.cmp .NotEq (.var 2) (.con (.str "add"))) (.cons (.ret (.call "_law_hand" (.cons (.var 0) (.cons (.var 2) (.cons (.ix (.var 1) (.con (.int 1))) (.cons (.ix (.var 1) (.con (.int 2))) .nil))))))
    .nil) .nil)
  (.cons (.ife (.or (.cmp .In (.ix (.var 1) (.con (.int 1))) (.ix (.var 0) (.con (.str "roads")))) (.cmp .Eq (.bi .len (.cons (.ix (.var 0) (.con (.str "roads"))) .nil)) (.con (.int 5)))) (.cons (.ret (.tup (.cons (.con (.str "refused")) (.cons (.con (.str "BadName")) .nil))))
    .nil) .nil)
  (.cons (.asg (.sb (.ix (.var 0) (.con (.str "roads"))) (.ix (.var 1) (.con (.int 1)))) (.ix (.var 1) (.con (.int 1))))
  (.cons (.ret (.con .non))
  .nil)))))))))⟩
def f__law_does : Fn := ⟨2, 3,
  (.cons (.asg (.nm 2) (.ix (.var 1) (.con (.int 0))))
  (.cons (.ife (.cmp .Eq (.var 2) (.con (.str "send"))) (.cons (.ret (.told (.meth (.var 0) "send" (.cons (.ix (.var 1) (.con (.int 1))) (.cons (.ix (.var 1) (.con (.int 2))) (.cons (.ix (.var 1) (.con (.int 3))) .nil))))))
    .nil) .nil)
  (.cons (.ife (.cmp .Eq (.var 2) (.con (.str "try"))) (.cons (.ret (.told (.meth (.var 0) "attempt" .nil)))
    .nil) .nil)
  (.cons (.ife (.cmp .Eq (.var 2) (.con (.str "tick"))) (.cons (.ret (.told (.meth (.var 0) "tick" (.cons (.ix (.var 1) (.con (.int 1))) .nil))))
    .nil) .nil)
  (.cons (.ife (.cmp .Eq (.var 2) (.con (.str "lead"))) (.cons (.ret (.told (.meth (.var 0) "lead" (.cons (.ix (.var 1) (.con (.int 1))) (.cons (.ix (.var 1) (.con (.int 2))) .nil)))))
    .nil) .nil)
  (.cons (.ife (.cmp .Eq (.var 2) (.con (.str "add"))) (.cons (.ret (.told (.meth (.var 0) "add_address" (.cons (.ix (.var 1) (.con (.int 1))) .nil))))
    .nil) .nil)
  (.cons (.ife (.cmp .Eq (.var 2) (.con (.str "go on"))) (.cons (.ret (.told (.meth (.var 0) "go_on" (.cons (.ix (.var 1) (.con (.int 1))) .nil))))
    .nil) .nil)
  (.cons (.ife (.cmp .Eq (.var 2) (.con (.str "drop"))) (.cons (.ret (.told (.meth (.var 0) "drop" (.cons (.ix (.var 1) (.con (.int 1))) .nil))))
    .nil) .nil)
  (.cons (.ife (.cmp .Eq (.var 2) (.con (.str "change"))) (.cons (.ret (.told (.meth (.var 0) "change" (.cons (.ix (.var 1) (.con (.int 1))) (.cons (.ix (.var 1) (.con (.int 2))) .nil)))))
    .nil) .nil)
  (.cons (.ret (.told (.meth (.var 0) "answer" (.cons (.ix (.var 1) (.con (.int 1))) (.cons (.var 2) .nil)))))
  .nil))))))))))⟩
def f__law_deed : Fn := ⟨2, 13,
  (.cons (.asg (.nm 2) (.bin .FloorDiv (.var 0) (.con (.int 64))))
  (.cons (.asg (.nm 3) (.lst false (.cons (.con (.str "home")) (.cons (.con (.str "out")) (.cons (.con (.str "x")) (.cons (.con (.str "yy")) (.cons (.con (.str "far")) (.cons (.con (.str "six")) .nil))))))))
  (.cons (.asg (.nm 4) (.bin .Add (.con (.int 1)) (.bin .Mod (.var 2) (.bin .Add (.bi .len (.cons (.ix (.var 1) (.con (.str "calls"))) .nil)) (.con (.int 1))))))
  (.cons (.asg (.nm 5) (.comp false (.bin .Add (.var 10) (.con (.int 1))) (.tp (.cons (.nm 10) (.cons (.nm 11) .nil))) (.enu (.ix (.var 1) (.con (.str "calls")))) (.cons (.cmp .In (.ix (.var 11) (.con (.str "word"))) (.tup (.cons (.con (.str "tried")) (.cons (.con (.str "put by")) .nil)))) .nil) [12, 10, 11]))
  (.cons (.ife (.and (.cmp .NotEq (.var 5) (.lst false .nil)) (.cmp .Gt (.bin .Mod (.bin .FloorDiv (.var 2) (.con (.int 64))) (.con (.int 4))) (.con (.int 0)))) (.cons (.asg (.nm 4) (.ix (.var 5) (.bin .Mod (.bin .FloorDiv (.var 2) (.con (.int 256))) (.bi .len (.cons (.var 5) .nil)))))
    .nil) .nil)
  (.cons (.asg (.nm 6) (.ix (.var 3) (.bin .Mod (.bin .FloorDiv (.var 2) (.con (.int 1024))) (.con (.int 6)))))
  (.cons (.asg (.nm 7) (.bin .Mult (.ix (.con (.str "ab ~Z")) (.bin .Mod (.bin .FloorDiv (.var 2) (.con (.int 8192))) (.con (.int 5)))) (.bin .Mod (.bin .FloorDiv (.var 2) (.bin .Pow (.con (.int 2)) (.con (.int 16)))) (.ix (.lst false (.cons (.con (.int 4)) (.cons (.con (.int 21)) .nil))) (.bin .Mod (.bin .FloorDiv (.var 2) (.bin .Pow (.con (.int 2)) (.con (.int 20)))) (.con (.int 2)))))))
  (.cons (.asg (.nm 8) (.bin .Mod (.var 0) (.con (.int 16))))
  (.cons (.ife (.cmp .Lt (.var 8) (.con (.int 4))) (.cons (.asg (.nm 9) (.ix (.lst false (.cons (.con (.str "k")) (.cons (.con (.str "key")) (.cons (.con (.str "z")) (.cons (.call "_law_any_name" (.cons (.bin .FloorDiv (.var 2) (.bin .Pow (.con (.int 2)) (.con (.int 24)))) (.cons (.con (.int 4)) .nil))) .nil))))) (.bin .Mod (.bin .FloorDiv (.var 2) (.bin .Pow (.con (.int 2)) (.con (.int 22)))) (.con (.int 4)))))
    (.cons (.ret (.tup (.cons (.con (.str "send")) (.cons (.var 9) (.cons (.var 6) (.cons (.ix (.lst false (.cons (.var 7) (.cons (.call "_law_any_text" (.cons (.bin .FloorDiv (.var 2) (.bin .Pow (.con (.int 2)) (.con (.int 30)))) (.cons (.con (.int 20)) .nil))) .nil))) (.bin .Mod (.bin .FloorDiv (.var 2) (.bin .Pow (.con (.int 2)) (.con (.int 26)))) (.con (.int 2)))) .nil))))))
    .nil)) .nil)
  (.cons (.ife (.cmp .Lt (.var 8) (.con (.int 8))) (.cons (.ret (.tup (.cons (.con (.str "try")) .nil)))
    .nil) .nil)
  (.cons (.ife (.cmp .Lt (.var 8) (.con (.int 11))) (.cons (.ret (.tup (.cons (.ix (.lst false (.cons (.con (.str "good")) (.cons (.con (.str "later")) (.cons (.con (.str "never")) (.cons (.con (.str "later")) (.cons (.con (.str "good")) .nil)))))) (.bin .Mod (.bin .FloorDiv (.var 2) (.bin .Pow (.con (.int 2)) (.con (.int 22)))) (.con (.int 5)))) (.cons (.var 4) (.cons (.var 6) .nil)))))
    .nil) .nil)
  (.cons (.ife (.cmp .Eq (.var 8) (.con (.int 11))) (.cons (.ret (.tup (.cons (.con (.str "tick")) (.cons (.ix (.lst false (.cons (.con (.int 0)) (.cons (.con (.int 1)) (.cons (.con (.int 1)) (.cons (.con (.int 2)) (.cons (.con (.int 3)) (.cons (.con (.int 5)) (.cons (.con (.int 10)) (.cons (.con (.int 100)) .nil))))))))) (.bin .Mod (.bin .FloorDiv (.var 2) (.bin .Pow (.con (.int 2)) (.con (.int 22)))) (.con (.int 8)))) .nil))))
    .nil) .nil)
  (.cons (.ife (.cmp .Eq (.var 8) (.con (.int 12))) (.cons (.ret (.tup (.cons (.con (.str "lead")) (.cons (.var 6) (.cons (.ix (.var 3) (.bin .Mod (.bin .FloorDiv (.var 2) (.bin .Pow (.con (.int 2)) (.con (.int 24)))) (.con (.int 6)))) .nil)))))
    .nil) .nil)
  (.cons (.ife (.cmp .Eq (.var 8) (.con (.int 13))) (.cons (.ret (.tup (.cons (.con (.str "add")) (.cons (.var 6) .nil))))
    .nil) .nil)
  (.cons (.ret (.tup (.cons (.ix (.lst false (.cons (.con (.str "go on")) (.cons (.con (.str "drop")) (.cons (.con (.str "change")) (.cons (.con (.str "go on")) (.cons (.con (.str "go on")) .nil)))))) (.bin .Mod (.bin .FloorDiv (.var 2) (.bin .Pow (.con (.int 2)) (.con (.int 22)))) (.con (.int 5)))) (.cons (.var 4) (.cons (.var 6) .nil)))))
  .nil)))))))))))))))⟩
def f__law_ready : Fn := ⟨3, 9,
  (.cons (.asg (.tp (.cons (.nm 5) (.cons (.nm 6) .nil))) (.tup (.cons (.make "Caller" (.cons (.var 1) .nil)) (.cons (.call "_law_own" (.cons (.var 1) .nil)) .nil))))
  (.cons (.fo (.nm 3) (.seq (.lst false (.cons (.con (.str "home")) (.cons (.con (.str "out")) (.cons (.con (.str "x")) .nil))))) (.cons (.exp (.meth (.var 5) "add_address" (.cons (.var 3) .nil)))
    (.cons (.asg (.sb (.ix (.var 6) (.con (.str "roads"))) (.var 3)) (.var 3))
    .nil)))
  (.cons (.fo (.nm 4) (.rng1 (.var 2)) (.cons (.asg (.nm 7) (.call "_law_drawn" (.cons (.var 0) (.cons (.bin .Add (.con (.int 500)) (.var 4)) .nil))))
    (.cons (.asg (.nm 8) (.tup (.cons (.con (.str "send")) (.cons (.ix (.lst false (.cons (.con (.str "k")) (.cons (.con (.str "key")) (.cons (.con (.str "z")) .nil)))) (.bin .Mod (.var 7) (.con (.int 3)))) (.cons (.ix (.lst false (.cons (.con (.str "home")) (.cons (.con (.str "out")) (.cons (.con (.str "x")) .nil)))) (.bin .Mod (.bin .FloorDiv (.var 7) (.con (.int 64))) (.con (.int 3)))) (.cons (.bin .Add (.con (.str "t")) (.bi .str (.cons (.var 4) .nil))) .nil))))))
    (.cons (.exp (.call "_law_does" (.cons (.var 5) (.cons (.var 8) .nil))))
    (.cons (.exp (.call "_law_own_does" (.cons (.var 6) (.cons (.var 8) .nil))))
    .nil)))))
  (.cons (.ret (.tup (.cons (.var 5) (.cons (.var 6) .nil))))
  .nil))))⟩
def f__law_guard : Fn := ⟨2, 2,
  (.cons (.ret (.dic (.cons (.con (.str "most")) (.cons (.var 0) (.cons (.con (.str "rest")) (.cons (.var 1) (.cons (.con (.str "counts")) (.cons (.dic .nil) (.cons (.con (.str "since")) (.cons (.dic .nil) .nil))))))))))
  .nil)⟩
def f__law_stands : Fn := ⟨3, 3,
  (.cons (.ife (.cmp .Lt (.bm (.ix (.var 1) (.con (.str "counts"))) .get (.cons (.var 2) (.cons (.con (.int 0)) .nil))) (.ix (.var 1) (.con (.str "most")))) (.cons (.ret (.con (.str "open")))
    .nil) .nil)
  (.cons (.ret (.ix (.lst false (.cons (.con (.str "shut")) (.cons (.con (.str "trial")) .nil))) (.bi .int (.cons (.cmp .LtE (.bin .Add (.ix (.ix (.var 1) (.con (.str "since"))) (.var 2)) (.ix (.var 1) (.con (.str "rest")))) (.ix (.var 0) (.con (.str "now")))) .nil))))
  .nil))⟩
def f__law_note : Fn := ⟨4, 4,
  (.cons (.asg (.sb (.ix (.var 1) (.con (.str "counts"))) (.var 2)) (.ix (.lst false (.cons (.bin .Add (.bm (.ix (.var 1) (.con (.str "counts"))) .get (.cons (.var 2) (.cons (.con (.int 0)) .nil))) (.con (.int 1))) (.cons (.con (.int 0)) .nil))) (.bi .int (.cons (.var 3) .nil))))
  (.cons (.asg (.sb (.ix (.var 1) (.con (.str "since"))) (.var 2)) (.ix (.var 0) (.con (.str "now"))))
  .nil))⟩
def f__law_guard_due : Fn := ⟨2, 9,
  (.cons (.asg (.nm 2) (.lst true .nil))
  (.cons (.fo (.nm 3) (.seq (.call "_law_due" (.cons (.var 0) .nil))) (.cons (.asg (.nm 4) (.call "_law_real" (.cons (.var 0) (.cons (.ix (.ix (.ix (.var 0) (.con (.str "calls"))) (.bin .Sub (.var 3) (.con (.int 1)))) (.con (.str "goal"))) .nil))))
    (.cons (.asg (.nm 5) (.comp false (.var 7) (.nm 7) (.seq (.ix (.var 0) (.con (.str "calls")))) (.cons (.and (.cmp .Eq (.ix (.var 7) (.con (.str "word"))) (.con (.str "tried"))) (.cmp .Eq (.ix (.var 7) (.con (.str "place"))) (.var 4))) .nil) [8, 7]))
    (.cons (.asg (.nm 6) (.call "_law_stands" (.cons (.var 0) (.cons (.var 1) (.cons (.var 4) .nil)))))
    (.cons (.ife (.or (.cmp .Eq (.var 6) (.con (.str "open"))) (.and (.cmp .Eq (.var 6) (.con (.str "trial"))) (.cmp .Eq (.var 5) (.lst false .nil)))) (.cons (.exp (.bm (.var 2) .append (.cons (.var 3) .nil)))
      .nil) .nil)
    .nil)))))
  (.cons (.ret (.var 2))
  .nil)))⟩
def f__law_guard_try : Fn := ⟨2, 4,
  (.cons (.asg (.nm 2) (.call "_law_guard_due" (.cons (.var 0) (.cons (.var 1) .nil))))
  (.cons (.ife (.cmp .Eq (.var 2) (.lst false .nil)) (.cons (.ret (.con .non))
    .nil) .nil)
  (.cons (.asg (.nm 3) (.ix (.ix (.var 0) (.con (.str "calls"))) (.bin .Sub (.ix (.var 2) (.con (.int 0))) (.con (.int 1)))))
  (.cons (.asg (.tp (.cons (.sb (.var 3) (.con (.str "word"))) (.cons (.sb (.var 3) (.con (.str "time"))) (.cons (.sb (.var 3) (.con (.str "place"))) .nil)))) (.tup (.cons (.con (.str "tried")) (.cons (.ix (.var 0) (.con (.str "now"))) (.cons (.call "_law_real" (.cons (.var 0) (.cons (.ix (.var 3) (.con (.str "goal"))) .nil))) .nil)))))
  (.cons (.asg (.sb (.var 3) (.con (.str "many"))) (.bin .Add (.ix (.var 3) (.con (.str "many"))) (.con (.int 1))))
  (.cons (.exp (.bm (.ix (.var 0) (.con (.str "log"))) .append (.cons (.tup (.cons (.ix (.var 0) (.con (.str "now"))) (.cons (.ix (.var 2) (.con (.int 0))) (.cons (.con (.str "tried")) .nil)))) .nil)))
  (.cons (.ret (.tup (.cons (.ix (.var 2) (.con (.int 0))) (.cons (.bin .Add (.con (.str "m")) (.bi .str (.cons (.ix (.var 2) (.con (.int 0))) .nil))) (.cons (.ix (.var 3) (.con (.str "place"))) (.cons (.ix (.var 3) (.con (.str "key"))) (.cons (.ix (.var 3) (.con (.str "text"))) .nil)))))))
  .nil)))))))⟩
def f__law_guard_tick : Fn := ⟨3, 7,
  (.cons (.fo (.nm 3) (.rng1 (.var 2)) (.cons (.asg (.nm 4) (.comp false (.var 5) (.nm 5) (.seq (.ix (.var 0) (.con (.str "calls")))) (.cons (.cmp .Eq (.ix (.var 5) (.con (.str "word"))) (.con (.str "tried"))) .nil) [6, 5]))
    (.cons (.exp (.call "_law_tick" (.cons (.var 0) (.cons (.con (.int 1)) .nil))))
    (.cons (.fo (.nm 5) (.seq (.var 4)) (.cons (.ife (.cmp .NotEq (.ix (.var 5) (.con (.str "word"))) (.con (.str "tried"))) (.cons (.exp (.call "_law_note" (.cons (.var 0) (.cons (.var 1) (.cons (.ix (.var 5) (.con (.str "place"))) (.cons (.con (.bl false)) .nil))))))
        .nil) .nil)
      .nil))
    .nil))))
  .nil)⟩
def f__law_guard_answer : Fn := ⟨4, 5,
  (.cons (.asg (.nm 4) (.call "_law_hand" (.cons (.var 0) (.cons (.var 2) (.cons (.var 3) (.cons (.con (.str "")) .nil))))))
  (.cons (.ife (.cmp .Is (.var 4) (.con .non)) (.cons (.exp (.call "_law_note" (.cons (.var 0) (.cons (.var 1) (.cons (.ix (.ix (.ix (.var 0) (.con (.str "calls"))) (.bin .Sub (.var 3) (.con (.int 1)))) (.con (.str "place"))) (.cons (.cmp .Eq (.var 2) (.con (.str "good"))) .nil))))))
    .nil) .nil)
  (.cons (.ret (.var 4))
  .nil)))⟩
class PNames (Pg : Prog) : Prop where
  h_is_name : Pg.fns.lookup ("is_name" : Str) = some f_is_name
  h_need_name : Pg.fns.lookup ("need_name" : Str) = some f_need_name
  h_is_text : Pg.fns.lookup ("is_text" : Str) = some f_is_text
  h_need_text : Pg.fns.lookup ("need_text" : Str) = some f_need_text
class PRules (Pg : Prog) : Prop where
  h_is_count : Pg.fns.lookup ("is_count" : Str) = some f_is_count
  h_need_rule : Pg.fns.lookup ("need_rule" : Str) = some f_need_rule
  h_wait_of : Pg.fns.lookup ("wait_of" : Str) = some f_wait_of
def cl_Taker : ClsI := ⟨some "Taker.__init__", [("take", "Taker.take"), ("names", "Taker.names"), ("row", "Taker.row")], ["marks", "rows"]⟩
class PTaker (Pg : Prog) : Prop extends PNames Pg where
  h_need_mark : Pg.fns.lookup ("need_mark" : Str) = some f_need_mark
  h_Taker___init__ : Pg.fns.lookup ("Taker.__init__" : Str) = some f_Taker___init__
  h_Taker_take : Pg.fns.lookup ("Taker.take" : Str) = some f_Taker_take
  h_Taker_names : Pg.fns.lookup ("Taker.names" : Str) = some f_Taker_names
  h_Taker_row : Pg.fns.lookup ("Taker.row" : Str) = some f_Taker_row
  k_Taker : Pg.cls.lookup ("Taker" : Str) = some cl_Taker
def cl_Call : ClsI := ⟨some "Call.__init__", [], ["key", "goal", "text", "word", "fails", "time", "many", "place"]⟩
def cl_Caller : ClsI := ⟨some "Caller.__init__", [("now", "Caller.now"), ("say", "Caller.say"), ("log", "Caller.log"), ("need_address", "Caller.need_address"), ("add_address", "Caller.add_address"), ("road", "Caller.road"), ("end_of", "Caller.end_of"), ("lead", "Caller.lead"), ("call", "Caller.call"), ("numbers", "Caller.numbers"), ("send", "Caller.send"), ("state", "Caller.state"), ("tries", "Caller.tries"), ("time_of", "Caller.time_of"), ("is_first", "Caller.is_first"), ("busy", "Caller.busy"), ("due", "Caller.due"), ("begin", "Caller.begin"), ("attempt", "Caller.attempt"), ("fail", "Caller.fail"), ("answer", "Caller.answer"), ("tick", "Caller.tick"), ("go_on", "Caller.go_on"), ("drop", "Caller.drop"), ("change", "Caller.change")], ["rule", "clock", "roads", "calls", "rows"]⟩
class PCaller (Pg : Prog) : Prop extends PNames Pg, PRules Pg where
  h_Call___init__ : Pg.fns.lookup ("Call.__init__" : Str) = some f_Call___init__
  h_Caller___init__ : Pg.fns.lookup ("Caller.__init__" : Str) = some f_Caller___init__
  h_Caller_say : Pg.fns.lookup ("Caller.say" : Str) = some f_Caller_say
  h_Caller_need_address : Pg.fns.lookup ("Caller.need_address" : Str) = some f_Caller_need_address
  h_Caller_add_address : Pg.fns.lookup ("Caller.add_address" : Str) = some f_Caller_add_address
  h_Caller_road : Pg.fns.lookup ("Caller.road" : Str) = some f_Caller_road
  h_Caller_end_of : Pg.fns.lookup ("Caller.end_of" : Str) = some f_Caller_end_of
  h_Caller_call : Pg.fns.lookup ("Caller.call" : Str) = some f_Caller_call
  h_Caller_numbers : Pg.fns.lookup ("Caller.numbers" : Str) = some f_Caller_numbers
  h_Caller_send : Pg.fns.lookup ("Caller.send" : Str) = some f_Caller_send
  h_Caller_is_first : Pg.fns.lookup ("Caller.is_first" : Str) = some f_Caller_is_first
  h_Caller_busy : Pg.fns.lookup ("Caller.busy" : Str) = some f_Caller_busy
  h_Caller_due : Pg.fns.lookup ("Caller.due" : Str) = some f_Caller_due
  h_Caller_begin : Pg.fns.lookup ("Caller.begin" : Str) = some f_Caller_begin
  h_Caller_attempt : Pg.fns.lookup ("Caller.attempt" : Str) = some f_Caller_attempt
  h_Caller_fail : Pg.fns.lookup ("Caller.fail" : Str) = some f_Caller_fail
  h_Caller_answer : ∃ gn, Pg.fns.lookup ("Caller.answer" : Str) = some (f_Caller_answer gn)
  h_Caller_tick : ∃ gn, Pg.fns.lookup ("Caller.tick" : Str) = some (f_Caller_tick gn)
  k_Call : Pg.cls.lookup ("Call" : Str) = some cl_Call
  k_Caller : Pg.cls.lookup ("Caller" : Str) = some cl_Caller
class PNow (Pg : Prog) : Prop extends PCaller Pg where
  h_Caller_now : Pg.fns.lookup ("Caller.now" : Str) = some f_Caller_now
class PLog (Pg : Prog) : Prop extends PCaller Pg where
  h_Caller_log : Pg.fns.lookup ("Caller.log" : Str) = some f_Caller_log
class PLead (Pg : Prog) : Prop extends PCaller Pg where
  h_Caller_lead : Pg.fns.lookup ("Caller.lead" : Str) = some f_Caller_lead
class PState (Pg : Prog) : Prop extends PCaller Pg where
  h_Caller_state : Pg.fns.lookup ("Caller.state" : Str) = some f_Caller_state
class PTries (Pg : Prog) : Prop extends PCaller Pg where
  h_Caller_tries : Pg.fns.lookup ("Caller.tries" : Str) = some f_Caller_tries
class PTimeOf (Pg : Prog) : Prop extends PCaller Pg where
  h_Caller_time_of : Pg.fns.lookup ("Caller.time_of" : Str) = some f_Caller_time_of
class PGoOn (Pg : Prog) : Prop extends PCaller Pg where
  h_Caller_go_on : Pg.fns.lookup ("Caller.go_on" : Str) = some f_Caller_go_on
class PDrop (Pg : Prog) : Prop extends PCaller Pg where
  h_Caller_drop : Pg.fns.lookup ("Caller.drop" : Str) = some f_Caller_drop
class PChange (Pg : Prog) : Prop extends PCaller Pg where
  h_Caller_change : Pg.fns.lookup ("Caller.change" : Str) = some f_Caller_change
def cl_Guard : ClsI := ⟨some "Guard.__init__", [("in_row", "Guard.in_row"), ("wakes", "Guard.wakes"), ("stands", "Guard.stands"), ("note", "Guard.note"), ("lets", "Guard.lets"), ("due", "Guard.due"), ("attempt", "Guard.attempt"), ("answer", "Guard.answer"), ("tick", "Guard.tick")], ["caller", "most", "rest", "counts", "since"]⟩
class PGuard (Pg : Prog) : Prop extends PNow Pg, PState Pg where
  h_Guard___init__ : Pg.fns.lookup ("Guard.__init__" : Str) = some f_Guard___init__
  h_Guard_in_row : Pg.fns.lookup ("Guard.in_row" : Str) = some f_Guard_in_row
  h_Guard_wakes : Pg.fns.lookup ("Guard.wakes" : Str) = some f_Guard_wakes
  h_Guard_stands : Pg.fns.lookup ("Guard.stands" : Str) = some f_Guard_stands
  h_Guard_note : Pg.fns.lookup ("Guard.note" : Str) = some f_Guard_note
  h_Guard_lets : Pg.fns.lookup ("Guard.lets" : Str) = some f_Guard_lets
  h_Guard_due : Pg.fns.lookup ("Guard.due" : Str) = some f_Guard_due
  h_Guard_attempt : Pg.fns.lookup ("Guard.attempt" : Str) = some f_Guard_attempt
  h_Guard_answer : ∃ gn, Pg.fns.lookup ("Guard.answer" : Str) = some (f_Guard_answer gn)
  h_Guard_tick : Pg.fns.lookup ("Guard.tick" : Str) = some f_Guard_tick
  k_Guard : Pg.cls.lookup ("Guard" : Str) = some cl_Guard
class PDraw (Pg : Prog) : Prop where
  h__law_cell : Pg.fns.lookup ("_law_cell" : Str) = some f__law_cell
  h__law_drawn : Pg.fns.lookup ("_law_drawn" : Str) = some f__law_drawn
class PLRule (Pg : Prog) : Prop extends PDraw Pg where
  h__law_rule : Pg.fns.lookup ("_law_rule" : Str) = some f__law_rule
class PAny (Pg : Prog) : Prop extends PDraw Pg where
  h__law_any_name : Pg.fns.lookup ("_law_any_name" : Str) = some f__law_any_name
  h__law_any_text : Pg.fns.lookup ("_law_any_text" : Str) = some f__law_any_text
class POwn (Pg : Prog) : Prop where
  h__law_wait : Pg.fns.lookup ("_law_wait" : Str) = some f__law_wait
  h__law_own : Pg.fns.lookup ("_law_own" : Str) = some f__law_own
  h__law_real : Pg.fns.lookup ("_law_real" : Str) = some f__law_real
  h__law_may : Pg.fns.lookup ("_law_may" : Str) = some f__law_may
  h__law_due : Pg.fns.lookup ("_law_due" : Str) = some f__law_due
  h__law_fail : Pg.fns.lookup ("_law_fail" : Str) = some f__law_fail
  h__law_send : Pg.fns.lookup ("_law_send" : Str) = some f__law_send
  h__law_try : Pg.fns.lookup ("_law_try" : Str) = some f__law_try
  h__law_tick : Pg.fns.lookup ("_law_tick" : Str) = some f__law_tick
  h__law_hand : Pg.fns.lookup ("_law_hand" : Str) = some f__law_hand
  h__law_lead : Pg.fns.lookup ("_law_lead" : Str) = some f__law_lead
  h__law_own_does : Pg.fns.lookup ("_law_own_does" : Str) = some f__law_own_does
class PDoes (Pg : Prog) : Prop extends PLead Pg, PGoOn Pg, PDrop Pg, PChange Pg where
  h__law_does : Pg.fns.lookup ("_law_does" : Str) = some f__law_does
class PDeed (Pg : Prog) : Prop extends PAny Pg where
  h__law_deed : Pg.fns.lookup ("_law_deed" : Str) = some f__law_deed
class PReady (Pg : Prog) : Prop extends POwn Pg, PDoes Pg, PDraw Pg where
  h__law_ready : Pg.fns.lookup ("_law_ready" : Str) = some f__law_ready
class PGOwn (Pg : Prog) : Prop extends POwn Pg where
  h__law_guard : Pg.fns.lookup ("_law_guard" : Str) = some f__law_guard
  h__law_stands : Pg.fns.lookup ("_law_stands" : Str) = some f__law_stands
  h__law_note : Pg.fns.lookup ("_law_note" : Str) = some f__law_note
  h__law_guard_due : Pg.fns.lookup ("_law_guard_due" : Str) = some f__law_guard_due
  h__law_guard_try : Pg.fns.lookup ("_law_guard_try" : Str) = some f__law_guard_try
  h__law_guard_tick : Pg.fns.lookup ("_law_guard_tick" : Str) = some f__law_guard_tick
  h__law_guard_answer : Pg.fns.lookup ("_law_guard_answer" : Str) = some f__law_guard_answer
section
variable {Pg : Prog}
theorem c_is_name [PNames Pg] (n : Nat) (as : List A) (h : AH) : callF Pg (n + 1) "is_name" as h = runFn Pg (callF Pg n) f_is_name as h := callF_at PNames.h_is_name as h
theorem c_need_name [PNames Pg] (n : Nat) (as : List A) (h : AH) : callF Pg (n + 1) "need_name" as h = runFn Pg (callF Pg n) f_need_name as h := callF_at PNames.h_need_name as h
theorem c_is_text [PNames Pg] (n : Nat) (as : List A) (h : AH) : callF Pg (n + 1) "is_text" as h = runFn Pg (callF Pg n) f_is_text as h := callF_at PNames.h_is_text as h
theorem c_need_text [PNames Pg] (n : Nat) (as : List A) (h : AH) : callF Pg (n + 1) "need_text" as h = runFn Pg (callF Pg n) f_need_text as h := callF_at PNames.h_need_text as h
theorem c_is_count [PRules Pg] (n : Nat) (as : List A) (h : AH) : callF Pg (n + 1) "is_count" as h = runFn Pg (callF Pg n) f_is_count as h := callF_at PRules.h_is_count as h
theorem c_need_rule [PRules Pg] (n : Nat) (as : List A) (h : AH) : callF Pg (n + 1) "need_rule" as h = runFn Pg (callF Pg n) f_need_rule as h := callF_at PRules.h_need_rule as h
theorem c_wait_of [PRules Pg] (n : Nat) (as : List A) (h : AH) : callF Pg (n + 1) "wait_of" as h = runFn Pg (callF Pg n) f_wait_of as h := callF_at PRules.h_wait_of as h
theorem c_need_mark [PTaker Pg] (n : Nat) (as : List A) (h : AH) : callF Pg (n + 1) "need_mark" as h = runFn Pg (callF Pg n) f_need_mark as h := callF_at PTaker.h_need_mark as h
theorem c_Taker___init__ [PTaker Pg] (n : Nat) (as : List A) (h : AH) : callF Pg (n + 1) "Taker.__init__" as h = runFn Pg (callF Pg n) f_Taker___init__ as h := callF_at PTaker.h_Taker___init__ as h
theorem c_Taker_take [PTaker Pg] (n : Nat) (as : List A) (h : AH) : callF Pg (n + 1) "Taker.take" as h = runFn Pg (callF Pg n) f_Taker_take as h := callF_at PTaker.h_Taker_take as h
theorem c_Taker_names [PTaker Pg] (n : Nat) (as : List A) (h : AH) : callF Pg (n + 1) "Taker.names" as h = runFn Pg (callF Pg n) f_Taker_names as h := callF_at PTaker.h_Taker_names as h
theorem c_Taker_row [PTaker Pg] (n : Nat) (as : List A) (h : AH) : callF Pg (n + 1) "Taker.row" as h = runFn Pg (callF Pg n) f_Taker_row as h := callF_at PTaker.h_Taker_row as h
theorem c_Call___init__ [PCaller Pg] (n : Nat) (as : List A) (h : AH) : callF Pg (n + 1) "Call.__init__" as h = runFn Pg (callF Pg n) f_Call___init__ as h := callF_at PCaller.h_Call___init__ as h
theorem c_Caller___init__ [PCaller Pg] (n : Nat) (as : List A) (h : AH) : callF Pg (n + 1) "Caller.__init__" as h = runFn Pg (callF Pg n) f_Caller___init__ as h := callF_at PCaller.h_Caller___init__ as h
theorem c_Caller_say [PCaller Pg] (n : Nat) (as : List A) (h : AH) : callF Pg (n + 1) "Caller.say" as h = runFn Pg (callF Pg n) f_Caller_say as h := callF_at PCaller.h_Caller_say as h
theorem c_Caller_need_address [PCaller Pg] (n : Nat) (as : List A) (h : AH) : callF Pg (n + 1) "Caller.need_address" as h = runFn Pg (callF Pg n) f_Caller_need_address as h := callF_at PCaller.h_Caller_need_address as h
theorem c_Caller_add_address [PCaller Pg] (n : Nat) (as : List A) (h : AH) : callF Pg (n + 1) "Caller.add_address" as h = runFn Pg (callF Pg n) f_Caller_add_address as h := callF_at PCaller.h_Caller_add_address as h
theorem c_Caller_road [PCaller Pg] (n : Nat) (as : List A) (h : AH) : callF Pg (n + 1) "Caller.road" as h = runFn Pg (callF Pg n) f_Caller_road as h := callF_at PCaller.h_Caller_road as h
theorem c_Caller_end_of [PCaller Pg] (n : Nat) (as : List A) (h : AH) : callF Pg (n + 1) "Caller.end_of" as h = runFn Pg (callF Pg n) f_Caller_end_of as h := callF_at PCaller.h_Caller_end_of as h
theorem c_Caller_call [PCaller Pg] (n : Nat) (as : List A) (h : AH) : callF Pg (n + 1) "Caller.call" as h = runFn Pg (callF Pg n) f_Caller_call as h := callF_at PCaller.h_Caller_call as h
theorem c_Caller_numbers [PCaller Pg] (n : Nat) (as : List A) (h : AH) : callF Pg (n + 1) "Caller.numbers" as h = runFn Pg (callF Pg n) f_Caller_numbers as h := callF_at PCaller.h_Caller_numbers as h
theorem c_Caller_send [PCaller Pg] (n : Nat) (as : List A) (h : AH) : callF Pg (n + 1) "Caller.send" as h = runFn Pg (callF Pg n) f_Caller_send as h := callF_at PCaller.h_Caller_send as h
theorem c_Caller_is_first [PCaller Pg] (n : Nat) (as : List A) (h : AH) : callF Pg (n + 1) "Caller.is_first" as h = runFn Pg (callF Pg n) f_Caller_is_first as h := callF_at PCaller.h_Caller_is_first as h
theorem c_Caller_busy [PCaller Pg] (n : Nat) (as : List A) (h : AH) : callF Pg (n + 1) "Caller.busy" as h = runFn Pg (callF Pg n) f_Caller_busy as h := callF_at PCaller.h_Caller_busy as h
theorem c_Caller_due [PCaller Pg] (n : Nat) (as : List A) (h : AH) : callF Pg (n + 1) "Caller.due" as h = runFn Pg (callF Pg n) f_Caller_due as h := callF_at PCaller.h_Caller_due as h
theorem c_Caller_begin [PCaller Pg] (n : Nat) (as : List A) (h : AH) : callF Pg (n + 1) "Caller.begin" as h = runFn Pg (callF Pg n) f_Caller_begin as h := callF_at PCaller.h_Caller_begin as h
theorem c_Caller_attempt [PCaller Pg] (n : Nat) (as : List A) (h : AH) : callF Pg (n + 1) "Caller.attempt" as h = runFn Pg (callF Pg n) f_Caller_attempt as h := callF_at PCaller.h_Caller_attempt as h
theorem c_Caller_fail [PCaller Pg] (n : Nat) (as : List A) (h : AH) : callF Pg (n + 1) "Caller.fail" as h = runFn Pg (callF Pg n) f_Caller_fail as h := callF_at PCaller.h_Caller_fail as h
theorem c_Caller_answer [PCaller Pg] (n : Nat) (as : List A) (h : AH) : ∃ gn, callF Pg (n + 1) "Caller.answer" as h = runFn Pg (callF Pg n) (f_Caller_answer gn) as h := let ⟨gn, e⟩ := PCaller.h_Caller_answer (Pg := Pg); ⟨gn, callF_at e as h⟩
theorem c_Caller_tick [PCaller Pg] (n : Nat) (as : List A) (h : AH) : ∃ gn, callF Pg (n + 1) "Caller.tick" as h = runFn Pg (callF Pg n) (f_Caller_tick gn) as h := let ⟨gn, e⟩ := PCaller.h_Caller_tick (Pg := Pg); ⟨gn, callF_at e as h⟩
theorem c_Caller_now [PNow Pg] (n : Nat) (as : List A) (h : AH) : callF Pg (n + 1) "Caller.now" as h = runFn Pg (callF Pg n) f_Caller_now as h := callF_at PNow.h_Caller_now as h
theorem c_Caller_log [PLog Pg] (n : Nat) (as : List A) (h : AH) : callF Pg (n + 1) "Caller.log" as h = runFn Pg (callF Pg n) f_Caller_log as h := callF_at PLog.h_Caller_log as h
theorem c_Caller_lead [PLead Pg] (n : Nat) (as : List A) (h : AH) : callF Pg (n + 1) "Caller.lead" as h = runFn Pg (callF Pg n) f_Caller_lead as h := callF_at PLead.h_Caller_lead as h
theorem c_Caller_state [PState Pg] (n : Nat) (as : List A) (h : AH) : callF Pg (n + 1) "Caller.state" as h = runFn Pg (callF Pg n) f_Caller_state as h := callF_at PState.h_Caller_state as h
theorem c_Caller_tries [PTries Pg] (n : Nat) (as : List A) (h : AH) : callF Pg (n + 1) "Caller.tries" as h = runFn Pg (callF Pg n) f_Caller_tries as h := callF_at PTries.h_Caller_tries as h
theorem c_Caller_time_of [PTimeOf Pg] (n : Nat) (as : List A) (h : AH) : callF Pg (n + 1) "Caller.time_of" as h = runFn Pg (callF Pg n) f_Caller_time_of as h := callF_at PTimeOf.h_Caller_time_of as h
theorem c_Caller_go_on [PGoOn Pg] (n : Nat) (as : List A) (h : AH) : callF Pg (n + 1) "Caller.go_on" as h = runFn Pg (callF Pg n) f_Caller_go_on as h := callF_at PGoOn.h_Caller_go_on as h
theorem c_Caller_drop [PDrop Pg] (n : Nat) (as : List A) (h : AH) : callF Pg (n + 1) "Caller.drop" as h = runFn Pg (callF Pg n) f_Caller_drop as h := callF_at PDrop.h_Caller_drop as h
theorem c_Caller_change [PChange Pg] (n : Nat) (as : List A) (h : AH) : callF Pg (n + 1) "Caller.change" as h = runFn Pg (callF Pg n) f_Caller_change as h := callF_at PChange.h_Caller_change as h
theorem c_Guard___init__ [PGuard Pg] (n : Nat) (as : List A) (h : AH) : callF Pg (n + 1) "Guard.__init__" as h = runFn Pg (callF Pg n) f_Guard___init__ as h := callF_at PGuard.h_Guard___init__ as h
theorem c_Guard_in_row [PGuard Pg] (n : Nat) (as : List A) (h : AH) : callF Pg (n + 1) "Guard.in_row" as h = runFn Pg (callF Pg n) f_Guard_in_row as h := callF_at PGuard.h_Guard_in_row as h
theorem c_Guard_wakes [PGuard Pg] (n : Nat) (as : List A) (h : AH) : callF Pg (n + 1) "Guard.wakes" as h = runFn Pg (callF Pg n) f_Guard_wakes as h := callF_at PGuard.h_Guard_wakes as h
theorem c_Guard_stands [PGuard Pg] (n : Nat) (as : List A) (h : AH) : callF Pg (n + 1) "Guard.stands" as h = runFn Pg (callF Pg n) f_Guard_stands as h := callF_at PGuard.h_Guard_stands as h
theorem c_Guard_note [PGuard Pg] (n : Nat) (as : List A) (h : AH) : callF Pg (n + 1) "Guard.note" as h = runFn Pg (callF Pg n) f_Guard_note as h := callF_at PGuard.h_Guard_note as h
theorem c_Guard_lets [PGuard Pg] (n : Nat) (as : List A) (h : AH) : callF Pg (n + 1) "Guard.lets" as h = runFn Pg (callF Pg n) f_Guard_lets as h := callF_at PGuard.h_Guard_lets as h
theorem c_Guard_due [PGuard Pg] (n : Nat) (as : List A) (h : AH) : callF Pg (n + 1) "Guard.due" as h = runFn Pg (callF Pg n) f_Guard_due as h := callF_at PGuard.h_Guard_due as h
theorem c_Guard_attempt [PGuard Pg] (n : Nat) (as : List A) (h : AH) : callF Pg (n + 1) "Guard.attempt" as h = runFn Pg (callF Pg n) f_Guard_attempt as h := callF_at PGuard.h_Guard_attempt as h
theorem c_Guard_answer [PGuard Pg] (n : Nat) (as : List A) (h : AH) : ∃ gn, callF Pg (n + 1) "Guard.answer" as h = runFn Pg (callF Pg n) (f_Guard_answer gn) as h := let ⟨gn, e⟩ := PGuard.h_Guard_answer (Pg := Pg); ⟨gn, callF_at e as h⟩
theorem c_Guard_tick [PGuard Pg] (n : Nat) (as : List A) (h : AH) : callF Pg (n + 1) "Guard.tick" as h = runFn Pg (callF Pg n) f_Guard_tick as h := callF_at PGuard.h_Guard_tick as h
theorem c__law_cell [PDraw Pg] (n : Nat) (as : List A) (h : AH) : callF Pg (n + 1) "_law_cell" as h = runFn Pg (callF Pg n) f__law_cell as h := callF_at PDraw.h__law_cell as h
theorem c__law_drawn [PDraw Pg] (n : Nat) (as : List A) (h : AH) : callF Pg (n + 1) "_law_drawn" as h = runFn Pg (callF Pg n) f__law_drawn as h := callF_at PDraw.h__law_drawn as h
theorem c__law_rule [PLRule Pg] (n : Nat) (as : List A) (h : AH) : callF Pg (n + 1) "_law_rule" as h = runFn Pg (callF Pg n) f__law_rule as h := callF_at PLRule.h__law_rule as h
theorem c__law_any_name [PAny Pg] (n : Nat) (as : List A) (h : AH) : callF Pg (n + 1) "_law_any_name" as h = runFn Pg (callF Pg n) f__law_any_name as h := callF_at PAny.h__law_any_name as h
theorem c__law_any_text [PAny Pg] (n : Nat) (as : List A) (h : AH) : callF Pg (n + 1) "_law_any_text" as h = runFn Pg (callF Pg n) f__law_any_text as h := callF_at PAny.h__law_any_text as h
theorem c__law_wait [POwn Pg] (n : Nat) (as : List A) (h : AH) : callF Pg (n + 1) "_law_wait" as h = runFn Pg (callF Pg n) f__law_wait as h := callF_at POwn.h__law_wait as h
theorem c__law_own [POwn Pg] (n : Nat) (as : List A) (h : AH) : callF Pg (n + 1) "_law_own" as h = runFn Pg (callF Pg n) f__law_own as h := callF_at POwn.h__law_own as h
theorem c__law_real [POwn Pg] (n : Nat) (as : List A) (h : AH) : callF Pg (n + 1) "_law_real" as h = runFn Pg (callF Pg n) f__law_real as h := callF_at POwn.h__law_real as h
theorem c__law_may [POwn Pg] (n : Nat) (as : List A) (h : AH) : callF Pg (n + 1) "_law_may" as h = runFn Pg (callF Pg n) f__law_may as h := callF_at POwn.h__law_may as h
theorem c__law_due [POwn Pg] (n : Nat) (as : List A) (h : AH) : callF Pg (n + 1) "_law_due" as h = runFn Pg (callF Pg n) f__law_due as h := callF_at POwn.h__law_due as h
theorem c__law_fail [POwn Pg] (n : Nat) (as : List A) (h : AH) : callF Pg (n + 1) "_law_fail" as h = runFn Pg (callF Pg n) f__law_fail as h := callF_at POwn.h__law_fail as h
theorem c__law_send [POwn Pg] (n : Nat) (as : List A) (h : AH) : callF Pg (n + 1) "_law_send" as h = runFn Pg (callF Pg n) f__law_send as h := callF_at POwn.h__law_send as h
theorem c__law_try [POwn Pg] (n : Nat) (as : List A) (h : AH) : callF Pg (n + 1) "_law_try" as h = runFn Pg (callF Pg n) f__law_try as h := callF_at POwn.h__law_try as h
theorem c__law_tick [POwn Pg] (n : Nat) (as : List A) (h : AH) : callF Pg (n + 1) "_law_tick" as h = runFn Pg (callF Pg n) f__law_tick as h := callF_at POwn.h__law_tick as h
theorem c__law_hand [POwn Pg] (n : Nat) (as : List A) (h : AH) : callF Pg (n + 1) "_law_hand" as h = runFn Pg (callF Pg n) f__law_hand as h := callF_at POwn.h__law_hand as h
theorem c__law_lead [POwn Pg] (n : Nat) (as : List A) (h : AH) : callF Pg (n + 1) "_law_lead" as h = runFn Pg (callF Pg n) f__law_lead as h := callF_at POwn.h__law_lead as h
theorem c__law_own_does [POwn Pg] (n : Nat) (as : List A) (h : AH) : callF Pg (n + 1) "_law_own_does" as h = runFn Pg (callF Pg n) f__law_own_does as h := callF_at POwn.h__law_own_does as h
theorem c__law_does [PDoes Pg] (n : Nat) (as : List A) (h : AH) : callF Pg (n + 1) "_law_does" as h = runFn Pg (callF Pg n) f__law_does as h := callF_at PDoes.h__law_does as h
theorem c__law_deed [PDeed Pg] (n : Nat) (as : List A) (h : AH) : callF Pg (n + 1) "_law_deed" as h = runFn Pg (callF Pg n) f__law_deed as h := callF_at PDeed.h__law_deed as h
theorem c__law_ready [PReady Pg] (n : Nat) (as : List A) (h : AH) : callF Pg (n + 1) "_law_ready" as h = runFn Pg (callF Pg n) f__law_ready as h := callF_at PReady.h__law_ready as h
theorem c__law_guard [PGOwn Pg] (n : Nat) (as : List A) (h : AH) : callF Pg (n + 1) "_law_guard" as h = runFn Pg (callF Pg n) f__law_guard as h := callF_at PGOwn.h__law_guard as h
theorem c__law_stands [PGOwn Pg] (n : Nat) (as : List A) (h : AH) : callF Pg (n + 1) "_law_stands" as h = runFn Pg (callF Pg n) f__law_stands as h := callF_at PGOwn.h__law_stands as h
theorem c__law_note [PGOwn Pg] (n : Nat) (as : List A) (h : AH) : callF Pg (n + 1) "_law_note" as h = runFn Pg (callF Pg n) f__law_note as h := callF_at PGOwn.h__law_note as h
theorem c__law_guard_due [PGOwn Pg] (n : Nat) (as : List A) (h : AH) : callF Pg (n + 1) "_law_guard_due" as h = runFn Pg (callF Pg n) f__law_guard_due as h := callF_at PGOwn.h__law_guard_due as h
theorem c__law_guard_try [PGOwn Pg] (n : Nat) (as : List A) (h : AH) : callF Pg (n + 1) "_law_guard_try" as h = runFn Pg (callF Pg n) f__law_guard_try as h := callF_at PGOwn.h__law_guard_try as h
theorem c__law_guard_tick [PGOwn Pg] (n : Nat) (as : List A) (h : AH) : callF Pg (n + 1) "_law_guard_tick" as h = runFn Pg (callF Pg n) f__law_guard_tick as h := callF_at PGOwn.h__law_guard_tick as h
theorem c__law_guard_answer [PGOwn Pg] (n : Nat) (as : List A) (h : AH) : callF Pg (n + 1) "_law_guard_answer" as h = runFn Pg (callF Pg n) f__law_guard_answer as h := callF_at PGOwn.h__law_guard_answer as h
theorem clsF_of {c f : Str} {fs : List (Str × A)} {ci : ClsI} {r : Option A} (h : Pg.cls.lookup c = some ci) (e : (if ci.attrs.contains f then fs.lookup f else none) = r) : clsF Pg c f fs = r := by
  unfold clsF
  rw [h]
  exact e
theorem clsM_of {c m : Str} {fs : List (Str × A)} {ci : ClsI} {r : Option Str} (h : Pg.cls.lookup c = some ci) (e : (match ci.meths.lookup m, fs.lookup m with | some g, none => some g | _, _ => none) = r) : clsM Pg c m fs = r := by
  unfold clsM
  rw [h]
  exact e
theorem clsP_of {c f : Str} {v : A} {fs : List (Str × A)} {ci : ClsI} {r : Option (List (Str × A))} (h : Pg.cls.lookup c = some ci) (e : (if ci.attrs.contains f && decide (fs.length < 500) then some (putFA f v fs) else none) = r) : clsP Pg c f v fs = r := by
  unfold clsP
  rw [h]
  exact e
theorem clsI_of {c : Str} {ci : ClsI} (h : Pg.cls.lookup c = some ci) : clsI Pg c = ci.init := by
  unfold clsI
  rw [h]
def takerFs (x0 x1 : A) : List (Str × A) := [("marks", x0), ("rows", x1)]
@[simp] theorem I_Taker [PTaker Pg] : clsI Pg "Taker" = some "Taker.__init__" := clsI_of PTaker.k_Taker
@[simp] theorem F_Taker_marks [PTaker Pg] (x0 x1 : A) : clsF Pg "Taker" "marks" (takerFs x0 x1) = some x0 := clsF_of PTaker.k_Taker (by kernel_rfl)
@[simp] theorem F_Taker_rows [PTaker Pg] (x0 x1 : A) : clsF Pg "Taker" "rows" (takerFs x0 x1) = some x1 := clsF_of PTaker.k_Taker (by kernel_rfl)
@[simp] theorem P_Taker_marks [PTaker Pg] (x0 x1 : A) (y : A) : clsP Pg "Taker" "marks" y (takerFs x0 x1) = some (takerFs y x1) := clsP_of PTaker.k_Taker (by kernel_rfl)
@[simp] theorem N_Taker_marks [PTaker Pg]  (y : A) : clsP Pg "Taker" "marks" y [] = some ([("marks", y)] : List (Str × A)) := clsP_of PTaker.k_Taker (by kernel_rfl)
@[simp] theorem P_Taker_rows [PTaker Pg] (x0 x1 : A) (y : A) : clsP Pg "Taker" "rows" y (takerFs x0 x1) = some (takerFs x0 y) := clsP_of PTaker.k_Taker (by kernel_rfl)
@[simp] theorem N_Taker_rows [PTaker Pg] (x0 : A) (y : A) : clsP Pg "Taker" "rows" y [("marks", x0)] = some ((takerFs x0 y) : List (Str × A)) := clsP_of PTaker.k_Taker (by kernel_rfl)
@[simp] theorem M_Taker_take [PTaker Pg] (x0 x1 : A) : clsM Pg "Taker" "take" (takerFs x0 x1) = some "Taker.take" := clsM_of PTaker.k_Taker (by kernel_rfl)
@[simp] theorem M_Taker_names [PTaker Pg] (x0 x1 : A) : clsM Pg "Taker" "names" (takerFs x0 x1) = some "Taker.names" := clsM_of PTaker.k_Taker (by kernel_rfl)
@[simp] theorem M_Taker_row [PTaker Pg] (x0 x1 : A) : clsM Pg "Taker" "row" (takerFs x0 x1) = some "Taker.row" := clsM_of PTaker.k_Taker (by kernel_rfl)
def callFs (x0 x1 x2 x3 x4 x5 x6 x7 : A) : List (Str × A) := [("key", x0), ("goal", x1), ("text", x2), ("word", x3), ("fails", x4), ("time", x5), ("many", x6), ("place", x7)]
@[simp] theorem I_Call [PCaller Pg] : clsI Pg "Call" = some "Call.__init__" := clsI_of PCaller.k_Call
@[simp] theorem F_Call_key [PCaller Pg] (x0 x1 x2 x3 x4 x5 x6 x7 : A) : clsF Pg "Call" "key" (callFs x0 x1 x2 x3 x4 x5 x6 x7) = some x0 := clsF_of PCaller.k_Call (by kernel_rfl)
@[simp] theorem F_Call_goal [PCaller Pg] (x0 x1 x2 x3 x4 x5 x6 x7 : A) : clsF Pg "Call" "goal" (callFs x0 x1 x2 x3 x4 x5 x6 x7) = some x1 := clsF_of PCaller.k_Call (by kernel_rfl)
@[simp] theorem F_Call_text [PCaller Pg] (x0 x1 x2 x3 x4 x5 x6 x7 : A) : clsF Pg "Call" "text" (callFs x0 x1 x2 x3 x4 x5 x6 x7) = some x2 := clsF_of PCaller.k_Call (by kernel_rfl)
@[simp] theorem F_Call_word [PCaller Pg] (x0 x1 x2 x3 x4 x5 x6 x7 : A) : clsF Pg "Call" "word" (callFs x0 x1 x2 x3 x4 x5 x6 x7) = some x3 := clsF_of PCaller.k_Call (by kernel_rfl)
@[simp] theorem F_Call_fails [PCaller Pg] (x0 x1 x2 x3 x4 x5 x6 x7 : A) : clsF Pg "Call" "fails" (callFs x0 x1 x2 x3 x4 x5 x6 x7) = some x4 := clsF_of PCaller.k_Call (by kernel_rfl)
@[simp] theorem F_Call_time [PCaller Pg] (x0 x1 x2 x3 x4 x5 x6 x7 : A) : clsF Pg "Call" "time" (callFs x0 x1 x2 x3 x4 x5 x6 x7) = some x5 := clsF_of PCaller.k_Call (by kernel_rfl)
@[simp] theorem F_Call_many [PCaller Pg] (x0 x1 x2 x3 x4 x5 x6 x7 : A) : clsF Pg "Call" "many" (callFs x0 x1 x2 x3 x4 x5 x6 x7) = some x6 := clsF_of PCaller.k_Call (by kernel_rfl)
@[simp] theorem F_Call_place [PCaller Pg] (x0 x1 x2 x3 x4 x5 x6 x7 : A) : clsF Pg "Call" "place" (callFs x0 x1 x2 x3 x4 x5 x6 x7) = some x7 := clsF_of PCaller.k_Call (by kernel_rfl)
@[simp] theorem P_Call_key [PCaller Pg] (x0 x1 x2 x3 x4 x5 x6 x7 : A) (y : A) : clsP Pg "Call" "key" y (callFs x0 x1 x2 x3 x4 x5 x6 x7) = some (callFs y x1 x2 x3 x4 x5 x6 x7) := clsP_of PCaller.k_Call (by kernel_rfl)
@[simp] theorem N_Call_key [PCaller Pg]  (y : A) : clsP Pg "Call" "key" y [] = some ([("key", y)] : List (Str × A)) := clsP_of PCaller.k_Call (by kernel_rfl)
@[simp] theorem P_Call_goal [PCaller Pg] (x0 x1 x2 x3 x4 x5 x6 x7 : A) (y : A) : clsP Pg "Call" "goal" y (callFs x0 x1 x2 x3 x4 x5 x6 x7) = some (callFs x0 y x2 x3 x4 x5 x6 x7) := clsP_of PCaller.k_Call (by kernel_rfl)
@[simp] theorem N_Call_goal [PCaller Pg] (x0 : A) (y : A) : clsP Pg "Call" "goal" y [("key", x0)] = some ([("key", x0), ("goal", y)] : List (Str × A)) := clsP_of PCaller.k_Call (by kernel_rfl)
@[simp] theorem P_Call_text [PCaller Pg] (x0 x1 x2 x3 x4 x5 x6 x7 : A) (y : A) : clsP Pg "Call" "text" y (callFs x0 x1 x2 x3 x4 x5 x6 x7) = some (callFs x0 x1 y x3 x4 x5 x6 x7) := clsP_of PCaller.k_Call (by kernel_rfl)
@[simp] theorem N_Call_text [PCaller Pg] (x0 x1 : A) (y : A) : clsP Pg "Call" "text" y [("key", x0), ("goal", x1)] = some ([("key", x0), ("goal", x1), ("text", y)] : List (Str × A)) := clsP_of PCaller.k_Call (by kernel_rfl)
@[simp] theorem P_Call_word [PCaller Pg] (x0 x1 x2 x3 x4 x5 x6 x7 : A) (y : A) : clsP Pg "Call" "word" y (callFs x0 x1 x2 x3 x4 x5 x6 x7) = some (callFs x0 x1 x2 y x4 x5 x6 x7) := clsP_of PCaller.k_Call (by kernel_rfl)
@[simp] theorem N_Call_word [PCaller Pg] (x0 x1 x2 : A) (y : A) : clsP Pg "Call" "word" y [("key", x0), ("goal", x1), ("text", x2)] = some ([("key", x0), ("goal", x1), ("text", x2), ("word", y)] : List (Str × A)) := clsP_of PCaller.k_Call (by kernel_rfl)
@[simp] theorem P_Call_fails [PCaller Pg] (x0 x1 x2 x3 x4 x5 x6 x7 : A) (y : A) : clsP Pg "Call" "fails" y (callFs x0 x1 x2 x3 x4 x5 x6 x7) = some (callFs x0 x1 x2 x3 y x5 x6 x7) := clsP_of PCaller.k_Call (by kernel_rfl)
@[simp] theorem N_Call_fails [PCaller Pg] (x0 x1 x2 x3 : A) (y : A) : clsP Pg "Call" "fails" y [("key", x0), ("goal", x1), ("text", x2), ("word", x3)] = some ([("key", x0), ("goal", x1), ("text", x2), ("word", x3), ("fails", y)] : List (Str × A)) := clsP_of PCaller.k_Call (by kernel_rfl)
@[simp] theorem P_Call_time [PCaller Pg] (x0 x1 x2 x3 x4 x5 x6 x7 : A) (y : A) : clsP Pg "Call" "time" y (callFs x0 x1 x2 x3 x4 x5 x6 x7) = some (callFs x0 x1 x2 x3 x4 y x6 x7) := clsP_of PCaller.k_Call (by kernel_rfl)
@[simp] theorem N_Call_time [PCaller Pg] (x0 x1 x2 x3 x4 : A) (y : A) : clsP Pg "Call" "time" y [("key", x0), ("goal", x1), ("text", x2), ("word", x3), ("fails", x4)] = some ([("key", x0), ("goal", x1), ("text", x2), ("word", x3), ("fails", x4), ("time", y)] : List (Str × A)) := clsP_of PCaller.k_Call (by kernel_rfl)
@[simp] theorem P_Call_many [PCaller Pg] (x0 x1 x2 x3 x4 x5 x6 x7 : A) (y : A) : clsP Pg "Call" "many" y (callFs x0 x1 x2 x3 x4 x5 x6 x7) = some (callFs x0 x1 x2 x3 x4 x5 y x7) := clsP_of PCaller.k_Call (by kernel_rfl)
@[simp] theorem N_Call_many [PCaller Pg] (x0 x1 x2 x3 x4 x5 : A) (y : A) : clsP Pg "Call" "many" y [("key", x0), ("goal", x1), ("text", x2), ("word", x3), ("fails", x4), ("time", x5)] = some ([("key", x0), ("goal", x1), ("text", x2), ("word", x3), ("fails", x4), ("time", x5), ("many", y)] : List (Str × A)) := clsP_of PCaller.k_Call (by kernel_rfl)
@[simp] theorem P_Call_place [PCaller Pg] (x0 x1 x2 x3 x4 x5 x6 x7 : A) (y : A) : clsP Pg "Call" "place" y (callFs x0 x1 x2 x3 x4 x5 x6 x7) = some (callFs x0 x1 x2 x3 x4 x5 x6 y) := clsP_of PCaller.k_Call (by kernel_rfl)
@[simp] theorem N_Call_place [PCaller Pg] (x0 x1 x2 x3 x4 x5 x6 : A) (y : A) : clsP Pg "Call" "place" y [("key", x0), ("goal", x1), ("text", x2), ("word", x3), ("fails", x4), ("time", x5), ("many", x6)] = some ((callFs x0 x1 x2 x3 x4 x5 x6 y) : List (Str × A)) := clsP_of PCaller.k_Call (by kernel_rfl)
def callerFs (x0 x1 x2 x3 x4 : A) : List (Str × A) := [("rule", x0), ("clock", x1), ("roads", x2), ("calls", x3), ("rows", x4)]
@[simp] theorem I_Caller [PCaller Pg] : clsI Pg "Caller" = some "Caller.__init__" := clsI_of PCaller.k_Caller
@[simp] theorem F_Caller_rule [PCaller Pg] (x0 x1 x2 x3 x4 : A) : clsF Pg "Caller" "rule" (callerFs x0 x1 x2 x3 x4) = some x0 := clsF_of PCaller.k_Caller (by kernel_rfl)
@[simp] theorem F_Caller_clock [PCaller Pg] (x0 x1 x2 x3 x4 : A) : clsF Pg "Caller" "clock" (callerFs x0 x1 x2 x3 x4) = some x1 := clsF_of PCaller.k_Caller (by kernel_rfl)
@[simp] theorem F_Caller_roads [PCaller Pg] (x0 x1 x2 x3 x4 : A) : clsF Pg "Caller" "roads" (callerFs x0 x1 x2 x3 x4) = some x2 := clsF_of PCaller.k_Caller (by kernel_rfl)
@[simp] theorem F_Caller_calls [PCaller Pg] (x0 x1 x2 x3 x4 : A) : clsF Pg "Caller" "calls" (callerFs x0 x1 x2 x3 x4) = some x3 := clsF_of PCaller.k_Caller (by kernel_rfl)
@[simp] theorem F_Caller_rows [PCaller Pg] (x0 x1 x2 x3 x4 : A) : clsF Pg "Caller" "rows" (callerFs x0 x1 x2 x3 x4) = some x4 := clsF_of PCaller.k_Caller (by kernel_rfl)
@[simp] theorem P_Caller_rule [PCaller Pg] (x0 x1 x2 x3 x4 : A) (y : A) : clsP Pg "Caller" "rule" y (callerFs x0 x1 x2 x3 x4) = some (callerFs y x1 x2 x3 x4) := clsP_of PCaller.k_Caller (by kernel_rfl)
@[simp] theorem N_Caller_rule [PCaller Pg]  (y : A) : clsP Pg "Caller" "rule" y [] = some ([("rule", y)] : List (Str × A)) := clsP_of PCaller.k_Caller (by kernel_rfl)
@[simp] theorem P_Caller_clock [PCaller Pg] (x0 x1 x2 x3 x4 : A) (y : A) : clsP Pg "Caller" "clock" y (callerFs x0 x1 x2 x3 x4) = some (callerFs x0 y x2 x3 x4) := clsP_of PCaller.k_Caller (by kernel_rfl)
@[simp] theorem N_Caller_clock [PCaller Pg] (x0 : A) (y : A) : clsP Pg "Caller" "clock" y [("rule", x0)] = some ([("rule", x0), ("clock", y)] : List (Str × A)) := clsP_of PCaller.k_Caller (by kernel_rfl)
@[simp] theorem P_Caller_roads [PCaller Pg] (x0 x1 x2 x3 x4 : A) (y : A) : clsP Pg "Caller" "roads" y (callerFs x0 x1 x2 x3 x4) = some (callerFs x0 x1 y x3 x4) := clsP_of PCaller.k_Caller (by kernel_rfl)
@[simp] theorem N_Caller_roads [PCaller Pg] (x0 x1 : A) (y : A) : clsP Pg "Caller" "roads" y [("rule", x0), ("clock", x1)] = some ([("rule", x0), ("clock", x1), ("roads", y)] : List (Str × A)) := clsP_of PCaller.k_Caller (by kernel_rfl)
@[simp] theorem P_Caller_calls [PCaller Pg] (x0 x1 x2 x3 x4 : A) (y : A) : clsP Pg "Caller" "calls" y (callerFs x0 x1 x2 x3 x4) = some (callerFs x0 x1 x2 y x4) := clsP_of PCaller.k_Caller (by kernel_rfl)
@[simp] theorem N_Caller_calls [PCaller Pg] (x0 x1 x2 : A) (y : A) : clsP Pg "Caller" "calls" y [("rule", x0), ("clock", x1), ("roads", x2)] = some ([("rule", x0), ("clock", x1), ("roads", x2), ("calls", y)] : List (Str × A)) := clsP_of PCaller.k_Caller (by kernel_rfl)
@[simp] theorem P_Caller_rows [PCaller Pg] (x0 x1 x2 x3 x4 : A) (y : A) : clsP Pg "Caller" "rows" y (callerFs x0 x1 x2 x3 x4) = some (callerFs x0 x1 x2 x3 y) := clsP_of PCaller.k_Caller (by kernel_rfl)
@[simp] theorem N_Caller_rows [PCaller Pg] (x0 x1 x2 x3 : A) (y : A) : clsP Pg "Caller" "rows" y [("rule", x0), ("clock", x1), ("roads", x2), ("calls", x3)] = some ((callerFs x0 x1 x2 x3 y) : List (Str × A)) := clsP_of PCaller.k_Caller (by kernel_rfl)
@[simp] theorem M_Caller_now [PCaller Pg] (x0 x1 x2 x3 x4 : A) : clsM Pg "Caller" "now" (callerFs x0 x1 x2 x3 x4) = some "Caller.now" := clsM_of PCaller.k_Caller (by kernel_rfl)
@[simp] theorem M_Caller_say [PCaller Pg] (x0 x1 x2 x3 x4 : A) : clsM Pg "Caller" "say" (callerFs x0 x1 x2 x3 x4) = some "Caller.say" := clsM_of PCaller.k_Caller (by kernel_rfl)
@[simp] theorem M_Caller_log [PCaller Pg] (x0 x1 x2 x3 x4 : A) : clsM Pg "Caller" "log" (callerFs x0 x1 x2 x3 x4) = some "Caller.log" := clsM_of PCaller.k_Caller (by kernel_rfl)
@[simp] theorem M_Caller_need_address [PCaller Pg] (x0 x1 x2 x3 x4 : A) : clsM Pg "Caller" "need_address" (callerFs x0 x1 x2 x3 x4) = some "Caller.need_address" := clsM_of PCaller.k_Caller (by kernel_rfl)
@[simp] theorem M_Caller_add_address [PCaller Pg] (x0 x1 x2 x3 x4 : A) : clsM Pg "Caller" "add_address" (callerFs x0 x1 x2 x3 x4) = some "Caller.add_address" := clsM_of PCaller.k_Caller (by kernel_rfl)
@[simp] theorem M_Caller_road [PCaller Pg] (x0 x1 x2 x3 x4 : A) : clsM Pg "Caller" "road" (callerFs x0 x1 x2 x3 x4) = some "Caller.road" := clsM_of PCaller.k_Caller (by kernel_rfl)
@[simp] theorem M_Caller_end_of [PCaller Pg] (x0 x1 x2 x3 x4 : A) : clsM Pg "Caller" "end_of" (callerFs x0 x1 x2 x3 x4) = some "Caller.end_of" := clsM_of PCaller.k_Caller (by kernel_rfl)
@[simp] theorem M_Caller_lead [PCaller Pg] (x0 x1 x2 x3 x4 : A) : clsM Pg "Caller" "lead" (callerFs x0 x1 x2 x3 x4) = some "Caller.lead" := clsM_of PCaller.k_Caller (by kernel_rfl)
@[simp] theorem M_Caller_call [PCaller Pg] (x0 x1 x2 x3 x4 : A) : clsM Pg "Caller" "call" (callerFs x0 x1 x2 x3 x4) = some "Caller.call" := clsM_of PCaller.k_Caller (by kernel_rfl)
@[simp] theorem M_Caller_numbers [PCaller Pg] (x0 x1 x2 x3 x4 : A) : clsM Pg "Caller" "numbers" (callerFs x0 x1 x2 x3 x4) = some "Caller.numbers" := clsM_of PCaller.k_Caller (by kernel_rfl)
@[simp] theorem M_Caller_send [PCaller Pg] (x0 x1 x2 x3 x4 : A) : clsM Pg "Caller" "send" (callerFs x0 x1 x2 x3 x4) = some "Caller.send" := clsM_of PCaller.k_Caller (by kernel_rfl)
@[simp] theorem M_Caller_state [PCaller Pg] (x0 x1 x2 x3 x4 : A) : clsM Pg "Caller" "state" (callerFs x0 x1 x2 x3 x4) = some "Caller.state" := clsM_of PCaller.k_Caller (by kernel_rfl)
@[simp] theorem M_Caller_tries [PCaller Pg] (x0 x1 x2 x3 x4 : A) : clsM Pg "Caller" "tries" (callerFs x0 x1 x2 x3 x4) = some "Caller.tries" := clsM_of PCaller.k_Caller (by kernel_rfl)
@[simp] theorem M_Caller_time_of [PCaller Pg] (x0 x1 x2 x3 x4 : A) : clsM Pg "Caller" "time_of" (callerFs x0 x1 x2 x3 x4) = some "Caller.time_of" := clsM_of PCaller.k_Caller (by kernel_rfl)
@[simp] theorem M_Caller_is_first [PCaller Pg] (x0 x1 x2 x3 x4 : A) : clsM Pg "Caller" "is_first" (callerFs x0 x1 x2 x3 x4) = some "Caller.is_first" := clsM_of PCaller.k_Caller (by kernel_rfl)
@[simp] theorem M_Caller_busy [PCaller Pg] (x0 x1 x2 x3 x4 : A) : clsM Pg "Caller" "busy" (callerFs x0 x1 x2 x3 x4) = some "Caller.busy" := clsM_of PCaller.k_Caller (by kernel_rfl)
@[simp] theorem M_Caller_due [PCaller Pg] (x0 x1 x2 x3 x4 : A) : clsM Pg "Caller" "due" (callerFs x0 x1 x2 x3 x4) = some "Caller.due" := clsM_of PCaller.k_Caller (by kernel_rfl)
@[simp] theorem M_Caller_begin [PCaller Pg] (x0 x1 x2 x3 x4 : A) : clsM Pg "Caller" "begin" (callerFs x0 x1 x2 x3 x4) = some "Caller.begin" := clsM_of PCaller.k_Caller (by kernel_rfl)
@[simp] theorem M_Caller_attempt [PCaller Pg] (x0 x1 x2 x3 x4 : A) : clsM Pg "Caller" "attempt" (callerFs x0 x1 x2 x3 x4) = some "Caller.attempt" := clsM_of PCaller.k_Caller (by kernel_rfl)
@[simp] theorem M_Caller_fail [PCaller Pg] (x0 x1 x2 x3 x4 : A) : clsM Pg "Caller" "fail" (callerFs x0 x1 x2 x3 x4) = some "Caller.fail" := clsM_of PCaller.k_Caller (by kernel_rfl)
@[simp] theorem M_Caller_answer [PCaller Pg] (x0 x1 x2 x3 x4 : A) : clsM Pg "Caller" "answer" (callerFs x0 x1 x2 x3 x4) = some "Caller.answer" := clsM_of PCaller.k_Caller (by kernel_rfl)
@[simp] theorem M_Caller_tick [PCaller Pg] (x0 x1 x2 x3 x4 : A) : clsM Pg "Caller" "tick" (callerFs x0 x1 x2 x3 x4) = some "Caller.tick" := clsM_of PCaller.k_Caller (by kernel_rfl)
@[simp] theorem M_Caller_go_on [PCaller Pg] (x0 x1 x2 x3 x4 : A) : clsM Pg "Caller" "go_on" (callerFs x0 x1 x2 x3 x4) = some "Caller.go_on" := clsM_of PCaller.k_Caller (by kernel_rfl)
@[simp] theorem M_Caller_drop [PCaller Pg] (x0 x1 x2 x3 x4 : A) : clsM Pg "Caller" "drop" (callerFs x0 x1 x2 x3 x4) = some "Caller.drop" := clsM_of PCaller.k_Caller (by kernel_rfl)
@[simp] theorem M_Caller_change [PCaller Pg] (x0 x1 x2 x3 x4 : A) : clsM Pg "Caller" "change" (callerFs x0 x1 x2 x3 x4) = some "Caller.change" := clsM_of PCaller.k_Caller (by kernel_rfl)
def guardFs (x0 x1 x2 x3 x4 : A) : List (Str × A) := [("caller", x0), ("most", x1), ("rest", x2), ("counts", x3), ("since", x4)]
@[simp] theorem I_Guard [PGuard Pg] : clsI Pg "Guard" = some "Guard.__init__" := clsI_of PGuard.k_Guard
@[simp] theorem F_Guard_caller [PGuard Pg] (x0 x1 x2 x3 x4 : A) : clsF Pg "Guard" "caller" (guardFs x0 x1 x2 x3 x4) = some x0 := clsF_of PGuard.k_Guard (by kernel_rfl)
@[simp] theorem F_Guard_most [PGuard Pg] (x0 x1 x2 x3 x4 : A) : clsF Pg "Guard" "most" (guardFs x0 x1 x2 x3 x4) = some x1 := clsF_of PGuard.k_Guard (by kernel_rfl)
@[simp] theorem F_Guard_rest [PGuard Pg] (x0 x1 x2 x3 x4 : A) : clsF Pg "Guard" "rest" (guardFs x0 x1 x2 x3 x4) = some x2 := clsF_of PGuard.k_Guard (by kernel_rfl)
@[simp] theorem F_Guard_counts [PGuard Pg] (x0 x1 x2 x3 x4 : A) : clsF Pg "Guard" "counts" (guardFs x0 x1 x2 x3 x4) = some x3 := clsF_of PGuard.k_Guard (by kernel_rfl)
@[simp] theorem F_Guard_since [PGuard Pg] (x0 x1 x2 x3 x4 : A) : clsF Pg "Guard" "since" (guardFs x0 x1 x2 x3 x4) = some x4 := clsF_of PGuard.k_Guard (by kernel_rfl)
@[simp] theorem P_Guard_caller [PGuard Pg] (x0 x1 x2 x3 x4 : A) (y : A) : clsP Pg "Guard" "caller" y (guardFs x0 x1 x2 x3 x4) = some (guardFs y x1 x2 x3 x4) := clsP_of PGuard.k_Guard (by kernel_rfl)
@[simp] theorem N_Guard_caller [PGuard Pg]  (y : A) : clsP Pg "Guard" "caller" y [] = some ([("caller", y)] : List (Str × A)) := clsP_of PGuard.k_Guard (by kernel_rfl)
@[simp] theorem P_Guard_most [PGuard Pg] (x0 x1 x2 x3 x4 : A) (y : A) : clsP Pg "Guard" "most" y (guardFs x0 x1 x2 x3 x4) = some (guardFs x0 y x2 x3 x4) := clsP_of PGuard.k_Guard (by kernel_rfl)
@[simp] theorem N_Guard_most [PGuard Pg] (x0 : A) (y : A) : clsP Pg "Guard" "most" y [("caller", x0)] = some ([("caller", x0), ("most", y)] : List (Str × A)) := clsP_of PGuard.k_Guard (by kernel_rfl)
@[simp] theorem P_Guard_rest [PGuard Pg] (x0 x1 x2 x3 x4 : A) (y : A) : clsP Pg "Guard" "rest" y (guardFs x0 x1 x2 x3 x4) = some (guardFs x0 x1 y x3 x4) := clsP_of PGuard.k_Guard (by kernel_rfl)
@[simp] theorem N_Guard_rest [PGuard Pg] (x0 x1 : A) (y : A) : clsP Pg "Guard" "rest" y [("caller", x0), ("most", x1)] = some ([("caller", x0), ("most", x1), ("rest", y)] : List (Str × A)) := clsP_of PGuard.k_Guard (by kernel_rfl)
@[simp] theorem P_Guard_counts [PGuard Pg] (x0 x1 x2 x3 x4 : A) (y : A) : clsP Pg "Guard" "counts" y (guardFs x0 x1 x2 x3 x4) = some (guardFs x0 x1 x2 y x4) := clsP_of PGuard.k_Guard (by kernel_rfl)
@[simp] theorem N_Guard_counts [PGuard Pg] (x0 x1 x2 : A) (y : A) : clsP Pg "Guard" "counts" y [("caller", x0), ("most", x1), ("rest", x2)] = some ([("caller", x0), ("most", x1), ("rest", x2), ("counts", y)] : List (Str × A)) := clsP_of PGuard.k_Guard (by kernel_rfl)
@[simp] theorem P_Guard_since [PGuard Pg] (x0 x1 x2 x3 x4 : A) (y : A) : clsP Pg "Guard" "since" y (guardFs x0 x1 x2 x3 x4) = some (guardFs x0 x1 x2 x3 y) := clsP_of PGuard.k_Guard (by kernel_rfl)
@[simp] theorem N_Guard_since [PGuard Pg] (x0 x1 x2 x3 : A) (y : A) : clsP Pg "Guard" "since" y [("caller", x0), ("most", x1), ("rest", x2), ("counts", x3)] = some ((guardFs x0 x1 x2 x3 y) : List (Str × A)) := clsP_of PGuard.k_Guard (by kernel_rfl)
@[simp] theorem M_Guard_in_row [PGuard Pg] (x0 x1 x2 x3 x4 : A) : clsM Pg "Guard" "in_row" (guardFs x0 x1 x2 x3 x4) = some "Guard.in_row" := clsM_of PGuard.k_Guard (by kernel_rfl)
@[simp] theorem M_Guard_wakes [PGuard Pg] (x0 x1 x2 x3 x4 : A) : clsM Pg "Guard" "wakes" (guardFs x0 x1 x2 x3 x4) = some "Guard.wakes" := clsM_of PGuard.k_Guard (by kernel_rfl)
@[simp] theorem M_Guard_stands [PGuard Pg] (x0 x1 x2 x3 x4 : A) : clsM Pg "Guard" "stands" (guardFs x0 x1 x2 x3 x4) = some "Guard.stands" := clsM_of PGuard.k_Guard (by kernel_rfl)
@[simp] theorem M_Guard_note [PGuard Pg] (x0 x1 x2 x3 x4 : A) : clsM Pg "Guard" "note" (guardFs x0 x1 x2 x3 x4) = some "Guard.note" := clsM_of PGuard.k_Guard (by kernel_rfl)
@[simp] theorem M_Guard_lets [PGuard Pg] (x0 x1 x2 x3 x4 : A) : clsM Pg "Guard" "lets" (guardFs x0 x1 x2 x3 x4) = some "Guard.lets" := clsM_of PGuard.k_Guard (by kernel_rfl)
@[simp] theorem M_Guard_due [PGuard Pg] (x0 x1 x2 x3 x4 : A) : clsM Pg "Guard" "due" (guardFs x0 x1 x2 x3 x4) = some "Guard.due" := clsM_of PGuard.k_Guard (by kernel_rfl)
@[simp] theorem M_Guard_attempt [PGuard Pg] (x0 x1 x2 x3 x4 : A) : clsM Pg "Guard" "attempt" (guardFs x0 x1 x2 x3 x4) = some "Guard.attempt" := clsM_of PGuard.k_Guard (by kernel_rfl)
@[simp] theorem M_Guard_answer [PGuard Pg] (x0 x1 x2 x3 x4 : A) : clsM Pg "Guard" "answer" (guardFs x0 x1 x2 x3 x4) = some "Guard.answer" := clsM_of PGuard.k_Guard (by kernel_rfl)
@[simp] theorem M_Guard_tick [PGuard Pg] (x0 x1 x2 x3 x4 : A) : clsM Pg "Guard" "tick" (guardFs x0 x1 x2 x3 x4) = some "Guard.tick" := clsM_of PGuard.k_Guard (by kernel_rfl)
end
end MC

namespace MT
open PySem MI
/-- all places but those of F are as they were -/
def Fr (F : Nat → Prop) (h h' : AH) : Prop := h.length ≤ h'.length ∧ ∀ l, l < h.length → ¬ F l → h'[l]? = h[l]?
def No : Nat → Prop := fun _ => False
theorem Fr.refl (F : Nat → Prop) (h : AH) : Fr F h h := ⟨Nat.le_refl _, fun _ _ _ => rfl⟩
theorem Fr.trans {F : Nat → Prop} {h h1 h2 : AH} (a : Fr F h h1) (b : Fr F h1 h2) : Fr F h h2 := ⟨Nat.le_trans a.1 b.1, fun l hl hn => (b.2 l (Nat.lt_of_lt_of_le hl a.1) hn).trans (a.2 l hl hn)⟩
theorem Fr.wk {F G : Nat → Prop} {h h' : AH} (a : Fr F h h') (w : ∀ l, l < h.length → F l → G l) : Fr G h h' := ⟨a.1, fun l hl hn => a.2 l hl fun f => hn (w l hl f)⟩
theorem Fr.no {F : Nat → Prop} {h h' : AH} (a : Fr No h h') : Fr F h h' := a.wk fun _ _ f => f.elim
theorem Fr.app (F : Nat → Prop) (h g : AH) : Fr F h (h ++ g) := ⟨by simp, fun l hl _ => List.getElem?_append_left hl⟩
theorem Fr.set {F : Nat → Prop} (h : AH) {l : Nat} (x : AO) (f : F l) : Fr F h (h.set l x) := ⟨by simp, fun m _ hn => List.getElem?_set_ne (fun e : l = m => hn (by rw [← e]; exact f))⟩
theorem Fr.get {F : Nat → Prop} {h h' : AH} (a : Fr F h h') {l : Nat} {x : AO} (e : h[l]? = some x) (n : ¬ F l) : h'[l]? = some x := (a.2 l (List.getElem?_eq_some_iff.mp e).1 n).trans e
theorem Fr.getN {h h' : AH} (a : Fr No h h') {l : Nat} {x : AO} (e : h[l]? = some x) : h'[l]? = some x := a.get e id
theorem lt_of_get {h : AH} {l : Nat} {x : AO} (e : h[l]? = some x) : l < h.length := (List.getElem?_eq_some_iff.mp e).1
theorem get_app {h g : AH} {l : Nat} {x : AO} (e : h[l]? = some x) : (h ++ g)[l]? = some x := by rw [List.getElem?_append_left (lt_of_get e)]; exact e
@[simp] theorem get_last (h : AH) (x : AO) : (h ++ [x])[h.length]? = some x := by simp
/-- the items of a list, of a range, in turn -/
def seqN (xs : List A) : Nat → AH → Option (Option A) := fun i _ => some xs[i]?
def rngN (lo : Int) (n : Nat) : Nat → AH → Option (Option A) := fun i _ => some (if i < n then some (.int (lo + i)) else none)
@[simp] theorem itA_lst (xs : List A) (h : AH) : itA (.lst xs) h = some ⟨seqN xs, xs.length + 1, none⟩ := rfl
@[simp] theorem itA_tup (xs : List A) (h : AH) : itA (.tup xs) h = some ⟨seqN xs, xs.length + 1, none⟩ := rfl
theorem rngA_n {lo : Int} {n : Nat} (hi : Int) (e : hi = lo + n) (h1 : -1000000 ≤ lo) (h2 : lo ≤ 1000000) (h3 : n ≤ 1000000) : rngA lo hi = some ⟨rngN lo n, n + 1, none⟩ := by
  subst e
  rw [rngA_some (by omega) (by omega) (by omega) (by omega)]
  have : (lo + (n : Int) - lo).toNat = n := by omega
  simp only [this]
  rfl
theorem rngA_e {lo hi : Int} (e : hi ≤ lo) (h1 : -1000000 ≤ lo) (h2 : lo ≤ 1000000) (h3 : -1000000 ≤ hi) : rngA lo hi = some ⟨rngN lo 0, 0 + 1, none⟩ := by
  rw [rngA_some (by omega) (by omega) (by omega) (by omega)]
  have : (hi - lo).toNat = 0 := by omega
  simp only [this]
  rfl
@[simp] theorem itA_loc (l : Nat) (h : AH) : itA (.loc l) h = match h[l]? with
    | some (.lst xs) => some ⟨fun i h => nthA h (.loc l) i, xs.length + 1, none⟩
    | some (.dic false kvs) => some ⟨fun i h => keyAt h l i, kvs.length + 1, some l⟩
    | some (.dic true kvs) => some ⟨fun i h => keyAt h l i, kvs.length + 1, none⟩
    | _ => none := rfl
def chrs (z : Str) : List A := z.cps.toList.map fun c => .str ⟨#[c]⟩
theorem chrs_len (z : Str) : (chrs z).length = z.length := by simp [chrs, Str.length]
theorem itA_str (z : Str) (h : AH) (hz : z.length ≤ 100000) : itA (.str z) h = some ⟨seqN (chrs z), (chrs z).length + 1, none⟩ := by
  simp only [itA, small_le, decide_eq_true hz, if_true, chrs_len]
  unfold seqN
  simp [chrs]
theorem compL_step {nx : Nat → AH → Option (Option A)} {bd : A → AH → R (Option A)} {xs : List A} {g : A → Option A} (P : AH → Prop) (hnx : ∀ i h, P h → nx i h = some xs[i]?) (hb : ∀ x ∈ xs, ∀ h, P h → ∃ h', bd x h = .ok (g x) h' ∧ P h') (hs : xs.length ≤ 100000) :
    ∀ (m i : Nat) (acc : List A) (h : AH), i + m = xs.length → acc.length ≤ i → P h → ∃ h', compL nx bd (m + 1) i acc h = .ok (acc ++ (xs.drop i).filterMap g) h' ∧ P h'
  | 0, i, acc, h, e, la, p => by
    refine ⟨h, ?_, p⟩
    unfold compL
    have : xs[i]? = none := by simp; omega
    rw [hnx i h p, this, List.drop_eq_nil_of_le (by omega)]
    simp
  | m + 1, i, acc, h, e, la, p => by
    have hi : i < xs.length := by omega
    obtain ⟨h1, e1, p1⟩ := hb xs[i] (List.getElem_mem hi) h p
    have ed : xs.drop i = xs[i] :: xs.drop (i + 1) := (List.getElem_cons_drop hi).symm
    unfold compL
    rw [hnx i h p, List.getElem?_eq_getElem hi]
    simp only [e1]
    cases eg : g xs[i] with
    | none =>
      obtain ⟨h', e2, p2⟩ := compL_step P hnx hb hs m (i + 1) acc h1 (by omega) (by omega) p1
      refine ⟨h', ?_, p2⟩
      rw [ed, List.filterMap_cons, eg]
      exact e2
    | some y =>
      obtain ⟨h', e2, p2⟩ := compL_step P hnx hb hs m (i + 1) (acc ++ [y]) h1 (by omega) (by simp; omega) p1
      refine ⟨h', ?_, p2⟩
      dsimp only
      rw [if_pos (by simp; omega), ed, List.filterMap_cons, eg, e2, List.append_assoc]
      rfl
theorem comp_inv {nx : Nat → AH → Option (Option A)} {bd : A → AH → R (Option A)} {xs : List A} {g : A → Option A} (P : AH → Prop) (hnx : ∀ i h, P h → nx i h = some xs[i]?) (hb : ∀ x ∈ xs, ∀ h, P h → ∃ h', bd x h = .ok (g x) h' ∧ P h') (hs : xs.length ≤ 100000) (h : AH) (p : P h) :
    ∃ h', compL nx bd (xs.length + 1) 0 [] h = .ok (xs.filterMap g) h' ∧ P h' := by
  obtain ⟨h', e, p'⟩ := compL_step P hnx hb hs xs.length 0 [] h (by omega) (by simp) p
  exact ⟨h', by simpa using e, p'⟩
/-- .. whose turns leave the heap -/
theorem comp_pure {nx : Nat → AH → Option (Option A)} {bd : A → AH → R (Option A)} {xs : List A} (g : A → Option A) {h : AH} (hnx : ∀ i, nx i h = some xs[i]?) (hb : ∀ x ∈ xs, bd x h = .ok (g x) h) (hs : xs.length ≤ 100000) : compL nx bd (xs.length + 1) 0 [] h = .ok (xs.filterMap g) h := by
  obtain ⟨h', e, rfl⟩ := comp_inv (fun h' => h' = h) (fun i h' e => by subst e; exact hnx i) (fun x hx h' e => ⟨h', by subst e; exact hb x hx, e⟩) hs h rfl
  exact e
theorem comp_seq {bd : A → AH → R (Option A)} {xs : List A} (g : A → Option A) {h : AH} (hb : ∀ x ∈ xs, bd x h = .ok (g x) h) (hs : xs.length ≤ 100000) : compL (seqN xs) bd (xs.length + 1) 0 [] h = .ok (xs.filterMap g) h := comp_pure g (fun _ => rfl) hb hs
theorem comp_seqI {bd : A → AH → R (Option A)} {xs : List A} (g : A → Option A) (P : AH → Prop) {h : AH} (p : P h) (hb : ∀ x ∈ xs, ∀ h, P h → ∃ h', bd x h = .ok (g x) h' ∧ P h') (hs : xs.length ≤ 100000) : ∃ h', compL (seqN xs) bd (xs.length + 1) 0 [] h = .ok (xs.filterMap g) h' ∧ P h' := comp_inv P (fun _ _ _ => rfl) hb hs h p
theorem rng_items (lo : Int) (n : Nat) (h : AH) (i : Nat) : rngN lo n i h = some ((List.range n).map fun (j : Nat) => A.int (lo + j))[i]? := by
  unfold rngN
  by_cases hi : i < n <;> simp [hi]
theorem comp_rngI {bd : A → AH → R (Option A)} {lo : Int} {n : Nat} (g : Nat → Option A) (P : AH → Prop) {h : AH} (p : P h) (hb : ∀ j, j < n → ∀ h, P h → ∃ h', bd (.int (lo + (j : Nat))) h = .ok (g j) h' ∧ P h') (hs : n ≤ 100000) : ∃ h', compL (rngN lo n) bd (n + 1) 0 [] h = .ok ((List.range n).filterMap g) h' ∧ P h' := by
  have hl : ((List.range n).map fun (j : Nat) => A.int (lo + j)).length = n := by simp
  obtain ⟨h', e, p'⟩ := comp_inv (nx := rngN lo n) (bd := bd) (xs := (List.range n).map fun (j : Nat) => A.int (lo + j)) (g := fun x => match x with | .int i => g (i - lo).toNat | _ => none) P (fun i h _ => rng_items lo n h i) (fun x hx h p => by
    obtain ⟨j, hj, rfl⟩ := List.mem_map.mp hx
    obtain ⟨h', e, p'⟩ := hb j (by simpa using hj) h p
    have ej : (lo + (j : Int) - lo).toNat = j := by omega
    exact ⟨h', by simp only [ej]; exact e, p'⟩) (by omega) h p
  refine ⟨h', ?_, p'⟩
  rw [hl] at e
  rw [e, List.filterMap_map]
  have ef : ((fun x => match x with | .int i => g (i - lo).toNat | _ => none) ∘ fun (j : Nat) => A.int (lo + j)) = g := by
    funext j
    have ej : (lo + (j : Int) - lo).toNat = j := by omega
    simp only [Function.comp_apply, ej]
  rw [ef]
theorem comp_rng {bd : A → AH → R (Option A)} {lo : Int} {n : Nat} (g : Nat → Option A) {h : AH} (hb : ∀ j, j < n → bd (.int (lo + (j : Nat))) h = .ok (g j) h) (hs : n ≤ 100000) : compL (rngN lo n) bd (n + 1) 0 [] h = .ok ((List.range n).filterMap g) h := by
  obtain ⟨h', e, rfl⟩ := comp_rngI (lo := lo) (n := n) (bd := bd) g (fun h' => h' = h) rfl (fun j hj h' e => ⟨h', by subst e; exact hb j hj, e⟩) hs
  exact e
theorem for_list {nx : Nat → AH → Option (Option A)} {bd : A → ASt → AH → F} {xs : List A} (Inv : Nat → ASt → AH → Prop) (hnx : ∀ i s h, i ≤ xs.length → Inv i s h → nx i h = some xs[i]?) (go : ∀ (i : Nat) (x : A) (s : ASt) (h : AH), xs[i]? = some x → Inv i s h → Goes (bd x s h) (Inv (i + 1))) {s : ASt} {h : AH} (h0 : Inv 0 s h) :
    ∃ s' h', forL nx bd (xs.length + 1) 0 s h = .nx s' h' ∧ Inv xs.length s' h' :=
  forL_inv Inv (fun i s h hi I => ⟨xs[i], by rw [hnx i s h (Nat.le_of_lt hi) I]; simp [hi], go i xs[i] s h (by simp [hi]) I⟩) (fun s h I => by rw [hnx _ s h (Nat.le_refl _) I]; simp) xs.length 0 s h (by omega) h0
theorem for_seq {bd : A → ASt → AH → F} {xs : List A} (Inv : Nat → ASt → AH → Prop) {s : ASt} {h : AH} (h0 : Inv 0 s h) (go : ∀ (i : Nat) (x : A) (s : ASt) (h : AH), xs[i]? = some x → Inv i s h → Goes (bd x s h) (Inv (i + 1))) :
    ∃ s' h', forL (seqN xs) bd (xs.length + 1) 0 s h = .nx s' h' ∧ Inv xs.length s' h' := for_list Inv (fun _ _ _ _ _ => rfl) go h0
theorem for_range {bd : A → ASt → AH → F} {lo : Int} {n : Nat} (Inv : Nat → ASt → AH → Prop) {s : ASt} {h : AH} (h0 : Inv 0 s h) (go : ∀ i s h, i < n → Inv i s h → Goes (bd (.int (lo + i)) s h) (Inv (i + 1))) :
    ∃ s' h', forL (rngN lo n) bd (n + 1) 0 s h = .nx s' h' ∧ Inv n s' h' := for_rng Inv h0 go
theorem boolsA_map {α : Type} (f : α → Bool) : ∀ xs : List α, boolsA (xs.map fun x => A.bl (f x)) = some (xs.map f)
  | [] => rfl
  | x :: xs => by simp [boolsA_map f xs]
theorem filterMap_some {α β : Type} (f : α → β) (xs : List α) : xs.filterMap (fun x => some (f x)) = xs.map f := by
  induction xs with
  | nil => rfl
  | cons x xs ih => simp [ih]
theorem ev_rng1 {Pg : Prog} {cf : Str → List A → AH → R A} {a : E} {s : ASt} {h h' : AH} {j : Int} (n : Nat) (he : evE Pg cf a s h = .ok (.int j) h') (hj : j = n) (hn : n ≤ 1000000) : evI Pg cf (.rng1 a) s h = .ok ⟨rngN 0 n, n + 1, none⟩ h' := by
  rw [evI_rng1, he, bind_ok, hj]
  dsimp only
  rw [rngA_n (n := n) _ (by omega) (by omega) (by omega) hn]
  rfl
theorem ev_rng2 {Pg : Prog} {cf : Str → List A → AH → R A} {a b : E} {s : ASt} {h h1 h2 : AH} {i j : Int} (n : Nat) (ha : evE Pg cf a s h = .ok (.int i) h1) (hb : evE Pg cf b s h1 = .ok (.int j) h2) (hj : j = i + n) (h0 : -1000000 ≤ i) (h3 : i ≤ 1000000) (hn : n ≤ 1000000) : evI Pg cf (.rng2 a b) s h = .ok ⟨rngN i n, n + 1, none⟩ h2 := by
  rw [evI_rng2, ha, bind_ok, hb, bind_ok, hj]
  dsimp only
  rw [rngA_n (n := n) _ rfl h0 h3 hn]
  rfl
/-- a for over a walk that was found -/
theorem fo_at {Pg : Prog} {cf : Str → List A → AH → R A} {t : Tg} {it : I} {b : Ss} {s s' : ASt} {h h1 h' : AH} {nx : Nat → AH → Option (Option A)} {m : Nat} (ei : evI Pg cf it s h = .ok ⟨nx, m, none⟩ h1) (e : forL nx (forB Pg cf t b) m 0 s h1 = .nx s' h') : evS Pg cf (.fo t it b) s h = .nx s' h' := by
  rw [evS_fo, ei, toF_ok]
  dsimp only
  rw [e, lkOk_none, if_pos rfl, unF_none]
abbrev rngK (K : Nat) : I := .rng1 (.bi .max (.cons (.con (.int 1)) (.cons (.bi .min (.cons (.con (.int K)) (.cons (.bi .len (.cons (.var 0) .nil)) .nil))) .nil)))
theorem ev_rngK {Pg : Prog} {cf : Str → List A → AH → R A} {K : Nat} (hK : K ≤ 10) {s : ASt} {h : AH} {xs : List A} (hx : xs.length ≤ 63) (h0 : s[0]? = some (some (.fro xs))) : ∃ m : Nat, m ≤ max 1 K ∧ evI Pg cf (rngK K) s h = .ok ⟨rngN 0 m, m + 1, none⟩ h := by
  refine ⟨max 1 (min K xs.length), by omega, ?_⟩
  have q : (if (if (xs.length : Int) < K then (xs.length : Int) else K) > 1 then (if (xs.length : Int) < K then (xs.length : Int) else K) else 1) = ((max 1 (min K xs.length) : Nat) : Int) := by omega
  simp only [evI_rng1, evE_bi, evEs_cons, evEs_nil, evE_con, evE_var, bind_ok, h0, MT.bi_len, len_f, Option.map_some, of_some, MT.bi_min, MT.bi_max]
  rw [q, rngA_n (n := max 1 (min K xs.length)) _ (by omega) (by omega) (by omega) (by omega)]
  rfl
theorem law_loop {Pg : Prog} {cf : Str → List A → AH → R A} {N K : Nat} (hK : K ≤ 10) (hN : 2 ≤ N) {lb : Ss} {ns : List Int} (hn : ns.length ≤ 63)
    (turn : ∀ (i : Nat) (s : ASt) (h : AH), s.length = N → s[0]? = some (some (.fro (ns.map A.int))) → s[1]? = some (some (.int i)) → ∃ s' h', evSs Pg cf lb s h = .nx s' h' ∧ s'.length = N ∧ s'[0]? = some (some (.fro (ns.map A.int)))) :
    ∃ h', runFn Pg cf ⟨1, N, .cons (.fo (.nm 1) (rngK K) lb) (.cons (.ret (.con (.bl true))) .nil)⟩ [.fro (ns.map A.int)] [] = .ok (.bl true) h' := by
  have s0 : (startA N [.fro (ns.map A.int)])[0]? = some (some (.fro (ns.map A.int))) := by simp [startA]
  have sl : (startA N [.fro (ns.map A.int)]).length = N := by simp [startA]; omega
  obtain ⟨m, hm, e⟩ := ev_rngK (Pg := Pg) (cf := cf) (K := K) hK (h := []) (by simpa using hn) s0
  obtain ⟨s', h', e1, e2⟩ := for_range (lo := 0) (n := m) (s := startA N [.fro (ns.map A.int)]) (h := []) (bd := forB Pg cf (.nm 1) lb) (fun _ s _ => s.length = N ∧ s[0]? = some (some (.fro (ns.map A.int)))) ⟨sl, s0⟩ (fun i s h hi I => by
    obtain ⟨l1, l2⟩ := I
    obtain ⟨s', h', t1, t2, t3⟩ := turn i (s.set 1 (some (.int i))) h (by simp [l1]) (by rw [List.getElem?_set_ne (by decide)]; exact l2) (by rw [List.getElem?_set_self (by omega)])
    exact ⟨s', h', .inl (by simpa using t1), t2, t3⟩)
  refine ⟨h', ?_⟩
  simp only [runFn_eq, List.length_cons, List.length_nil, Nat.zero_add, if_true, evSs_cons, evS_fo, e, toF_ok, evSs_nil, lkOk_none, unF_none]
  rw [e1]
  rfl
end MT

namespace MC
open PySem L2 MI MT
/-- a value that is no place, a short text -/
def okA : A → Bool
  | .loc _ => false
  | .str z => decide (z.length ≤ 1000)
  | _ => true
def isName (z : Str) : Bool := decide (1 ≤ z.length) && decide (z.length ≤ 4) && z.cps.toList.all fun c => decide (97 ≤ c) && decide (c ≤ 122)
def isText (z : Str) : Bool := decide (z.length ≤ 20) && z.cps.toList.all fun c => decide (32 ≤ c) && decide (c ≤ 126) && !decide (c = 37)
def nameA : A → Bool
  | .str z => isName z
  | _ => false
def textA : A → Bool
  | .str z => isText z
  | _ => false
theorem small_codes (c : Nat) : decide (c ∈ (Str.ofString "abcdefghijklmnopqrstuvwxyz").cps) = (decide (97 ≤ c) && decide (c ≤ 122)) := by
  have e : (Str.ofString "abcdefghijklmnopqrstuvwxyz").cps.toList = (List.range 26).map (· + 97) := by kernel_rfl
  rw [Bool.eq_iff_iff]
  simp only [decide_eq_true_eq, ← Array.mem_toList_iff, e, List.mem_map, List.mem_range, Bool.and_eq_true]
  constructor
  · rintro ⟨a, h1, h2⟩; omega
  · rintro ⟨h1, h2⟩; exact ⟨c - 97, by omega, by omega⟩
theorem le_sp {h : AH} (c : Nat) : cmpOp h .LtE (.str " ") (.str ⟨#[c]⟩) = some (decide (32 ≤ c)) := by
  have e1 : (Str.ofString " ").cps.toList = [32] := by kernel_rfl
  have e : cmpOp h .LtE (.str " ") (.str ⟨#[c]⟩) = some (!decide ([c] < (Str.ofString " ").cps.toList)) := rfl
  rw [e, e1]
  by_cases h1 : 32 ≤ c
  · have : ¬ c < 32 := by omega
    simp [h1, List.cons_lt_cons_iff, this]
  · have : c < 32 := by omega
    simp [h1, List.cons_lt_cons_iff, this]
theorem le_ti {h : AH} (c : Nat) : cmpOp h .LtE (.str ⟨#[c]⟩) (.str "~") = some (decide (c ≤ 126)) := by
  have e1 : (Str.ofString "~").cps.toList = [126] := by kernel_rfl
  have e : cmpOp h .LtE (.str ⟨#[c]⟩) (.str "~") = some (!decide ((Str.ofString "~").cps.toList < [c])) := rfl
  rw [e, e1]
  by_cases h1 : c ≤ 126
  · have : ¬ 126 < c := by omega
    simp [h1, List.cons_lt_cons_iff, this]
  · have : 126 < c := by omega
    simp [h1, List.cons_lt_cons_iff, this]
theorem bi_ord {h : AH} (c : Nat) : biOp h .ord [.str ⟨#[c]⟩] = some (.int c) := rfl
section
variable {Pg : Prog}
theorem s_is_name [PNames Pg] (n : Nat) (a : A) (h : AH) (ha : okA a = true) : callF Pg (n + 1) "is_name" [a] h = .ok (.bl (nameA a)) h := by
  rw [c_is_name]
  cases a with
  | loc l => cases ha
  | str z =>
    have hz : z.length ≤ 1000 := by simpa [okA] using ha
    have hz2 : z.length ≤ 100000 := by omega
    simp [f_is_name, nameA, isName, lenA, hz2]
    by_cases h1 : 1 ≤ z.length
    · by_cases h2 : z.length ≤ 4
      · have h1' : (1 : Int) ≤ z.length := by omega
        have h2' : (z.length : Int) ≤ 4 := by omega
        simp [h1, h2, h1', h2', itA_str z h hz2]
        rw [comp_seq fun x => match x with | .str w => (match w.cps.toList with | [c] => some (.bl (decide (97 ≤ c) && decide (c ≤ 122))) | _ => none) | _ => none]
        · have e : (chrs z).filterMap (fun x => match x with | .str w => (match w.cps.toList with | [c] => some (A.bl (decide (97 ≤ c) && decide (c ≤ 122))) | _ => none) | _ => none) = z.cps.toList.map fun c => A.bl (decide (97 ≤ c) && decide (c ≤ 122)) := by
            simp [chrs, List.filterMap_map, Function.comp_def]
          rw [e]
          simp [newL, boolsA_map]
        · intro x hx
          obtain ⟨c, hc, rfl⟩ := List.mem_map.mp hx
          simp [inA, small_codes]
        · rw [chrs_len]; omega
      · have h1' : (1 : Int) ≤ z.length := by omega
        have h2' : ¬ (z.length : Int) ≤ 4 := by omega
        simp [h1, h2, h1', h2']
    · have h1' : ¬ (1 : Int) ≤ z.length := by omega
      simp [h1, h1']
  | _ => simp [f_is_name, nameA]
theorem s_need_name [PNames Pg] (n : Nat) (a : A) (h : AH) (ha : okA a = true) : callF Pg (n + 2) "need_name" [a] h = if nameA a then .ok .non h else .exc "BadName" h := by
  rw [c_need_name]
  cases e : nameA a <;> simp [f_need_name, s_is_name, ha, e]
theorem s_is_text [PNames Pg] (n : Nat) (a : A) (h : AH) (ha : okA a = true) : callF Pg (n + 1) "is_text" [a] h = .ok (.bl (textA a)) h := by
  rw [c_is_text]
  cases a with
  | loc l => cases ha
  | str z =>
    have hz : z.length ≤ 1000 := by simpa [okA] using ha
    have hz2 : z.length ≤ 100000 := by omega
    simp [f_is_text, textA, isText, lenA, hz2]
    by_cases h2 : z.length ≤ 20
    · have h2' : (z.length : Int) ≤ 20 := by omega
      simp [h2, h2', itA_str z h hz2]
      rw [comp_seq fun x => match x with | .str w => (match w.cps.toList with | [c] => some (.bl (decide (32 ≤ c) && decide (c ≤ 126) && !decide (c = 37))) | _ => none) | _ => none]
      · have e : (chrs z).filterMap (fun x => match x with | .str w => (match w.cps.toList with | [c] => some (A.bl (decide (32 ≤ c) && decide (c ≤ 126) && !decide (c = 37))) | _ => none) | _ => none) = z.cps.toList.map fun c => A.bl (decide (32 ≤ c) && decide (c ≤ 126) && !decide (c = 37)) := by
          simp [chrs, List.filterMap_map, Function.comp_def]
        rw [e]
        simp [newL, boolsA_map]
      · intro x hx
        obtain ⟨c, hc, rfl⟩ := List.mem_map.mp hx
        by_cases h1 : 32 ≤ c
        · by_cases h2 : c ≤ 126
          · by_cases h3 : c = 37
            · subst h3
              simp [le_sp, le_ti, bi_ord]
            · have h3' : ¬ ((c : Int) = 37) := by omega
              simp [le_sp, le_ti, bi_ord, h1, h2, h3, h3']
          · simp [le_sp, le_ti, h1, h2]
        · simp [le_sp, h1]
      · rw [chrs_len]; omega
    · have h2' : ¬ (z.length : Int) ≤ 20 := by omega
      simp [h2, h2']
  | _ => simp [f_is_text, textA]
theorem s_need_text [PNames Pg] (n : Nat) (a : A) (h : AH) (ha : okA a = true) : callF Pg (n + 2) "need_text" [a] h = if textA a then .ok .non h else .exc "BadText" h := by
  rw [c_need_text]
  cases e : textA a <;> simp [f_need_text, s_is_text, ha, e]
end
end MC

namespace MC
open PySem L2 MI MT
section
variable {Pg : Prog}
def notLoc : A → Bool
  | .loc _ => false
  | _ => true
def isCnt (a : A) (lo hi : Int) : Bool := match a with
  | .int i => decide (lo ≤ i) && decide (i ≤ hi)
  | _ => false
theorem s_is_count [PRules Pg] (n : Nat) (a : A) (lo hi : Int) (h : AH) (ha : notLoc a = true) : callF Pg (n + 1) "is_count" [a, .int lo, .int hi] h = .ok (.bl (isCnt a lo hi)) h := by
  rw [c_is_count]
  cases a with
  | loc l => cases ha
  | int i =>
    simp [f_is_count, isCnt]
    by_cases h1 : lo ≤ i <;> simp [h1]
  | _ => simp [f_is_count, isCnt]
theorem s_drawn [PDraw Pg] (n : Nat) (c k : Int) (h : AH) : callF Pg (n + 1) "_law_drawn" [.int c, .int k] h = .ok (.int (drawn c k)) h := by
  rw [c__law_drawn]
  exact run_drawn c k h
theorem s_cell [PDraw Pg] (n : Nat) (ns : List Int) (hn : ns.length ≤ 63) (k : Int) (hk : 0 ≤ k) (h : AH) : ∃ c, callF Pg (n + 1) "_law_cell" [.fro (ns.map A.int), .int k] h = .ok (.int c) h := by
  rw [c__law_cell]
  exact run_cell ns hn k hk h
/-- a rule -/
def goodR : A → Bool
  | .tup [a0, a1, a2, a3, a4, a5] => isCnt a0 1 9 && isCnt a1 1 3 && isCnt a2 1 60 && isCnt a3 1 5 && isCnt a4 1 20 && isCnt a5 1 3
  | _ => false
def flatT : A → Bool
  | .tup xs => xs.all notLoc
  | .loc _ => false
  | _ => true
theorem s_need_rule [PRules Pg] (n : Nat) (a : A) (h : AH) (ha : flatT a = true) : callF Pg (n + 2) "need_rule" [a] h = if goodR a then .ok .non h else .exc "BadRule" h := by
  rw [c_need_rule]
  cases a with
  | loc l => cases ha
  | tup xs =>
    by_cases hl : xs.length = 6
    · match xs, hl with
      | [a0, a1, a2, a3, a4, a5], _ =>
        simp only [flatT, List.all_cons, List.all_nil, Bool.and_true, Bool.and_eq_true] at ha
        obtain ⟨h0, h1, h2, h3, h4, h5⟩ := ha
        simp [f_need_rule, s_is_count, h0, h1, h2, h3, h4, h5, zipT, MT.compL_succ, newL]
        cases e0 : isCnt a0 1 9 <;> cases e1 : isCnt a1 1 3 <;> cases e2 : isCnt a2 1 60 <;> cases e3 : isCnt a3 1 5 <;> cases e4 : isCnt a4 1 20 <;> cases e5 : isCnt a5 1 3 <;> simp [goodR, e0, e1, e2, e3, e4, e5]
    · have g : goodR (.tup xs) = false := by
        unfold goodR
        split
        · rename_i e
          cases e
          exact absurd rfl hl
        · rfl
      have e : ((xs.length : Int) == 6) = false := by simp; omega
      simp [f_need_rule, g, e]
  | _ => simp [f_need_rule, goodR]
/-- the rule of six numbers in their bounds -/
structure Rl (r0 r1 r2 r3 r4 r5 : Int) : Prop where
  b0 : 1 ≤ r0 ∧ r0 ≤ 9
  b1 : 1 ≤ r1 ∧ r1 ≤ 3
  b2 : 1 ≤ r2 ∧ r2 ≤ 60
  b3 : 1 ≤ r3 ∧ r3 ≤ 5
  b4 : 1 ≤ r4 ∧ r4 ≤ 20
  b5 : 1 ≤ r5 ∧ r5 ≤ 3
def mn (a b : Int) : Int := if a ≤ b then a else b
def W (r0 r1 r2 : Int) (f : Nat) : Int := mn (r0 * r1 ^ (f - 1)) r2
section
variable {r0 r1 r2 r3 r4 r5 : Int}
theorem s_wait_of [PRules Pg] (R : Rl r0 r1 r2 r3 r4 r5) (n f : Nat) (hf : 1 ≤ f ∧ f ≤ 5) (h : AH) : callF Pg (n + 1) "wait_of" [.tup [.int r0, .int r1, .int r2, .int r3, .int r4, .int r5], .int f] h = .ok (.int (W r0 r1 r2 f)) h := by
  have m : ∀ i, mulOk i r1 = true := fun i => mulOk_r (by have := R.b1; omega)
  have b0 := R.b0
  have b2 := R.b2
  have h1 : r1 = 1 ∨ r1 = 2 ∨ r1 = 3 := by have := R.b1; omega
  have h2 : f = 1 ∨ f = 2 ∨ f = 3 ∨ f = 4 ∨ f = 5 := by omega
  rw [c_wait_of]
  rcases h2 with e | e | e | e | e <;> subst e <;> simp [f_wait_of, evI_rng1, forL_succ, rngA, L2.atI, L2.ixN, m, W, mn] <;> rcases h1 with e | e | e <;> subst e <;> omega
theorem good_of (R : Rl r0 r1 r2 r3 r4 r5) : goodR (.tup [.int r0, .int r1, .int r2, .int r3, .int r4, .int r5]) = true := by
  obtain ⟨b0, b1, b2, b3, b4, b5⟩ := R
  simp [goodR, isCnt, b0, b1, b2, b3, b4, b5]
end
end
end MC

namespace MC
open PySem L2 MI MT
theorem cps_app (a b : Str) : (a ++ b).cps.toList = a.cps.toList ++ b.cps.toList := by
  show (a.cps ++ b.cps).toList = _
  simp
theorem join0 : ∀ zs : List Str, (Str.join (Str.ofString "") zs).cps.toList = zs.flatMap (·.cps.toList)
  | [] => rfl
  | [x] => by simp [Str.join]
  | x :: y :: r => by
    have e : (Str.ofString "").cps.toList = [] := by kernel_rfl
    rw [Str.join, cps_app, cps_app, e, join0 (y :: r)]
    simp
    exact fun h => by cases h
/-- a text of so many signs -/
def ofCs (cs : List Nat) : Str := ⟨cs.toArray⟩
theorem flat_cs : ∀ cs : List Nat, (cs.map fun c => (⟨#[c]⟩ : Str)).flatMap (·.cps.toList) = cs
  | [] => rfl
  | c :: cs => by simp [List.flatMap_cons, flat_cs cs]
theorem join_cs (cs : List Nat) : Txt.join (Str.ofString "") (cs.map fun c => (⟨#[c]⟩ : Str)) = ofCs cs := by
  rw [TL.join_eq]
  have h := join0 (cs.map fun c => (⟨#[c]⟩ : Str))
  rw [flat_cs] at h
  refine TL.ext_tl ?_
  exact h
theorem strsA_map : ∀ zs : List Str, strsA (zs.map A.str) = some zs
  | [] => rfl
  | z :: zs => by simp [strsA, strsA_map zs]
theorem ix_str {h : AH} (z : Str) (i : Nat) (hz : z.length ≤ 100000) (hi : i < z.length) : ixA h (.str z) (.int i) = some (.str ⟨#[z.cps.toList.getD i 0]⟩) := by
  have hl : z.cps.toList.length = z.length := by simp [Str.length]
  have hi2 : i < z.cps.toList.length := by omega
  simp only [ixA, MT.small_le, decide_eq_true hz, if_true]
  rw [L2.atI_nat (List.getElem?_eq_getElem hi2)]
  have : z.cps.toList.getD i 0 = z.cps.toList[i] := by rw [List.getD_eq_getElem?_getD, List.getElem?_eq_getElem hi2]; rfl
  rw [this]
  rfl
@[simp] theorem recv_join {h : AH} (z : Str) : recvOk .join (.str z) h = true := rfl
theorem join_range {h : AH} (f : Nat → Nat) (m : Nat) (hm : m ≤ 1000) : ∃ L, (List.range m).filterMap (fun j => some (A.str ⟨#[f j]⟩)) = L ∧ bmOp .join (.str "") [.lst L] h = .ok (.str (ofCs ((List.range m).map f))) h := by
  refine ⟨(((List.range m).map f).map fun c => (⟨#[c]⟩ : Str)).map A.str, by simp [List.filterMap_eq_map, Function.comp_def], ?_⟩
  have e2 : ((((List.range m).map f).map fun c => (⟨#[c]⟩ : Str)).map (·.length)).sum + (((List.range m).map f).map fun c => (⟨#[c]⟩ : Str)).length * (Str.ofString "").length ≤ 100000 := by
    have : (Str.ofString "").length = 0 := by kernel_rfl
    rw [this]
    have e3 : ((((List.range m).map f).map fun c => (⟨#[c]⟩ : Str)).map (·.length)) = List.replicate m 1 := by
      rw [List.eq_replicate_iff]
      simp [Str.length]
    rw [e3]
    simp
    omega
  simp only [bmOp, listAt_l, strsA_map]
  rw [if_pos (decide_eq_true e2), join_cs]
section
variable {Pg : Prog}
theorem s_any_name [PAny Pg] (n : Nat) (more : Int) (h : AH) : ∃ z, isName z = true ∧ callF Pg (n + 2) "_law_any_name" [.int more, .int 4] h = .ok (.str z) h := by
  rw [c__law_any_name]
  have hb := Int.emod_nonneg more (show (4 : Int) ≠ 0 by decide)
  have hb2 := Int.emod_lt_of_pos more (show (0 : Int) < 4 by decide)
  obtain ⟨m, hm⟩ := Int.eq_ofNat_of_zero_le (show 0 ≤ 1 + more % 4 by omega)
  have er : rngA 0 (1 + more % 4) = some ⟨rngN 0 m, m + 1, none⟩ := rngA_n _ (by omega) (by omega) (by omega) (by omega)
  let f : Nat → Nat := fun j => (drawn more j % 26).toNat + 97
  have hf : ∀ j, 97 ≤ f j ∧ f j ≤ 122 := fun j => by
    have hd := Int.emod_nonneg (drawn more j) (show (26 : Int) ≠ 0 by decide)
    have hd2 := Int.emod_lt_of_pos (drawn more j) (show (0 : Int) < 26 by decide)
    simp only [f]
    omega
  refine ⟨ofCs ((List.range m).map f), ?_, ?_⟩
  · have : m ≤ 4 ∧ 1 ≤ m := by omega
    simp [isName, ofCs, Str.length, this]
    exact fun x _ => hf x
  · simp [f__law_any_name, evI_rng1, er]
    rw [comp_rng fun j => some (.str ⟨#[f j]⟩)]
    · obtain ⟨L, e1, e2⟩ := join_range (h := h) f m (by omega)
      rw [e1]
      simp [newL, e2]
    · intro j hj
      have hd := Int.emod_nonneg (drawn more j) (show (26 : Int) ≠ 0 by decide)
      have hd2 := Int.emod_lt_of_pos (drawn more j) (show (0 : Int) < 26 by decide)
      obtain ⟨i, hi⟩ := Int.eq_ofNat_of_zero_le hd
      have ei : ixA h (.str "abcdefghijklmnopqrstuvwxyz") (.int (drawn more j % 26)) = some (.str ⟨#[f j]⟩) := by
        have e26 : (Str.ofString "abcdefghijklmnopqrstuvwxyz").length = 26 := by kernel_rfl
        rw [hi, ix_str _ i (by omega) (by omega)]
        have ec : (Str.ofString "abcdefghijklmnopqrstuvwxyz").cps.toList = (List.range 26).map (· + 97) := by kernel_rfl
        have i26 : i < 26 := by omega
        rw [ec]
        simp [f, hi, i26, List.getD]
      simp [s_drawn, ei]
    · omega
def signs : List Nat := (List.range 95).filterMap fun j => if j = 5 then none else some (j + 32)
theorem s_any_text [PAny Pg] (n : Nat) (more : Int) (h : AH) : ∃ z, isText z = true ∧ callF Pg (n + 2) "_law_any_text" [.int more, .int 20] h = .ok (.str z) h := by
  rw [c__law_any_text]
  have hb := Int.emod_nonneg more (show (21 : Int) ≠ 0 by decide)
  have hb2 := Int.emod_lt_of_pos more (show (0 : Int) < 21 by decide)
  obtain ⟨m, hm⟩ := Int.eq_ofNat_of_zero_le hb
  have er : rngA 0 (more % 21) = some ⟨rngN 0 m, m + 1, none⟩ := rngA_n _ (by omega) (by omega) (by omega) (by omega)
  let f : Nat → Nat := fun j => signs.getD (drawn more j % 94).toNat 0
  have hs : ∀ i, i < 94 → (32 ≤ signs.getD i 0 ∧ signs.getD i 0 ≤ 126) ∧ ¬ signs.getD i 0 = 37 := by decide +kernel
  have hf : ∀ j, (32 ≤ f j ∧ f j ≤ 126) ∧ ¬ f j = 37 := fun j => by
    have hd := Int.emod_nonneg (drawn more j) (show (94 : Int) ≠ 0 by decide)
    have hd2 := Int.emod_lt_of_pos (drawn more j) (show (0 : Int) < 94 by decide)
    exact hs _ (by omega)
  refine ⟨ofCs ((List.range m).map f), ?_, ?_⟩
  · have : m ≤ 20 := by omega
    simp [isText, ofCs, Str.length, this]
    exact fun x _ => hf x
  · simp [f__law_any_text, evI_rng1, er]
    rw [comp_rng fun j => some (.str ⟨#[f j]⟩)]
    · obtain ⟨L, e1, e2⟩ := join_range (h := h) f m (by omega)
      rw [e1]
      simp [newL, e2]
    · intro j hj
      have hd := Int.emod_nonneg (drawn more j) (show (94 : Int) ≠ 0 by decide)
      have hd2 := Int.emod_lt_of_pos (drawn more j) (show (0 : Int) < 94 by decide)
      obtain ⟨i, hi⟩ := Int.eq_ofNat_of_zero_le hd
      have ei : ixA h (.str " !\"#$&'()*+,-./0123456789:;<=>?@ABCDEFGHIJKLMNOPQRSTUVWXYZ[\\]^_`abcdefghijklmnopqrstuvwxyz{|}~") (.int (drawn more j % 94)) = some (.str ⟨#[f j]⟩) := by
        have e94 : (Str.ofString " !\"#$&'()*+,-./0123456789:;<=>?@ABCDEFGHIJKLMNOPQRSTUVWXYZ[\\]^_`abcdefghijklmnopqrstuvwxyz{|}~").length = 94 := by kernel_rfl
        rw [hi, ix_str _ i (by omega) (by omega)]
        have ec : (Str.ofString " !\"#$&'()*+,-./0123456789:;<=>?@ABCDEFGHIJKLMNOPQRSTUVWXYZ[\\]^_`abcdefghijklmnopqrstuvwxyz{|}~").cps.toList = signs := by kernel_rfl
        rw [ec]
        simp only [f, hi]
        rfl
      simp [s_drawn, ei]
    · omega
def isFig (c : Nat) : Bool := decide (48 ≤ c) && decide (c ≤ 57)
def isMark (z : Str) : Bool := match z.cps.toList with
  | a :: b :: r => decide (r.length ≤ 3) && decide (a = 109) && isFig b && r.all isFig && !decide (b = 48)
  | _ => false
def markA : A → Bool
  | .str z => isMark z
  | _ => false
theorem fig_codes (c : Nat) : decide (c ∈ (Str.ofString "0123456789").cps) = isFig c := by
  have e : (Str.ofString "0123456789").cps.toList = (List.range 10).map (· + 48) := by kernel_rfl
  unfold isFig
  rw [Bool.eq_iff_iff]
  simp only [decide_eq_true_eq, ← Array.mem_toList_iff, e, List.mem_map, List.mem_range, Bool.and_eq_true]
  constructor
  · rintro ⟨a, h1, h2⟩; omega
  · rintro ⟨h1, h2⟩; exact ⟨c - 48, by omega, by omega⟩
theorem one_eq {z : Str} {k : Nat} (e : z.cps.toList = [k]) (c : Nat) : decide ((⟨#[c]⟩ : Str) = z) = decide (c = k) := by
  have : z = ⟨#[k]⟩ := TL.ext_tl e
  rw [this, Bool.eq_iff_iff]
  simp
theorem s_need_mark [PTaker Pg] (n : Nat) (a : A) (h : AH) (ha : okA a = true) : callF Pg (n + 1) "need_mark" [a] h = if markA a then .ok .non h else .exc "BadText" h := by
  rw [c_need_mark]
  cases a with
  | loc l => cases ha
  | str z =>
    have hz : z.length ≤ 1000 := by simpa [okA] using ha
    have hz2 : z.length ≤ 100000 := by omega
    have hl : z.cps.toList.length = z.length := by simp [Str.length]
    have em : (Str.ofString "m").cps.toList = [109] := by kernel_rfl
    have e0 : (Str.ofString "0").cps.toList = [48] := by kernel_rfl
    have cs : z.cps.toList = [] ∨ (∃ x, z.cps.toList = [x]) ∨ ∃ a b r, z.cps.toList = a :: b :: r := by
      match z.cps.toList with
      | [] => exact .inl rfl
      | [x] => exact .inr (.inl ⟨x, rfl⟩)
      | a :: b :: r => exact .inr (.inr ⟨a, b, r, rfl⟩)
    rcases cs with ez | ⟨x, ez⟩ | ⟨a, b, r, ez⟩
    · have hm : markA (.str z) = false := by simp only [markA, isMark, ez]
      have : z.length = 0 := by rw [← hl, ez]; rfl
      simp [f_need_mark, lenA, hz2, hm, this]
    · have hm : markA (.str z) = false := by simp only [markA, isMark, ez]
      have : z.length = 1 := by rw [← hl, ez]; rfl
      simp [f_need_mark, lenA, hz2, hm, this]
    · have hm : markA (.str z) = (decide (r.length ≤ 3) && decide (a = 109) && isFig b && r.all isFig && !decide (b = 48)) := by simp only [markA, isMark, ez]
      have hb : (boolsA ((b :: r).map fun c => A.bl (isFig c))).map (fun bs => A.bl (bs.all id)) = some (.bl (isFig b && r.all isFig)) := by
        rw [boolsA_map]
        simp [List.all_map, Function.comp_def]
      rw [hm]
      generalize r.all isFig = q at hb
      generalize isFig b = p at hb
      have zl : z.length = r.length + 2 := by rw [← hl, ez]; simp
      have i0 : ixA h (.str z) (.int 0) = some (.str ⟨#[a]⟩) := by
        have := ix_str (h := h) z 0 hz2 (by omega)
        rw [ez] at this
        exact this
      have i1 : ixA h (.str z) (.int 1) = some (.str ⟨#[b]⟩) := by
        have := ix_str (h := h) z 1 hz2 (by omega)
        rw [ez] at this
        exact this
      have cut : slA h (.str z) (some 1) none = some (.str (ofCs (b :: r))) := by
        simp only [slA, MT.small_le, decide_eq_true hz2, if_true, ez]
        simp [cutA, HT.sIx, ofCs]
      have h2 : (2 : Int) ≤ z.length := by omega
      by_cases h5 : r.length ≤ 3
      · have h5' : (z.length : Int) ≤ 5 := by omega
        have lb : (ofCs (b :: r)).length ≤ 100000 := by simp [ofCs, Str.length]; omega
        by_cases ea : a = 109
        · simp [f_need_mark, lenA, hz2, h2, h5, h5', i0, one_eq em, ea, partA, cut, itA_str _ h lb]
          rw [comp_seq fun x => match x with | .str w => (match w.cps.toList with | [c] => some (.bl (isFig c)) | _ => none) | _ => none]
          · have e : (chrs (ofCs (b :: r))).filterMap (fun x => match x with | .str w => (match w.cps.toList with | [c] => some (A.bl (isFig c)) | _ => none) | _ => none) = (b :: r).map fun c => A.bl (isFig c) := by
              simp [chrs, ofCs, List.filterMap_map, Function.comp_def]
            rw [e]
            generalize (b :: r).map (fun c => A.bl (isFig c)) = L at hb
            simp [newL, hb]
            cases p <;> cases q <;> by_cases eb : b = 48 <;> simp [i1, one_eq e0, eb]
          · intro x hx
            obtain ⟨c, hc, rfl⟩ := List.mem_map.mp hx
            simp [inA, fig_codes]
          · rw [chrs_len]; exact lb
        · simp [f_need_mark, lenA, hz2, h2, h5, h5', i0, one_eq em, ea]
      · have h5' : ¬ (z.length : Int) ≤ 5 := by omega
        simp [f_need_mark, lenA, hz2, h2, h5, h5']
  | _ => simp [f_need_mark, markA]
end
end MC

namespace MC
open PySem L2 MI MT
section
variable {β : Type}
def dm (g : β → A) (rs : List (Str × β)) : List (Key × A) := rs.map fun p => (.inr p.1, g p.2)
def putL (k : Str) (x : β) (rs : List (Str × β)) : List (Str × β) := if (rs.any fun p => decide (p.1 = k)) = true then rs.map (fun p => if p.1 = k then (p.1, x) else p) else rs ++ [(k, x)]
def getL (k : Str) : List (Str × β) → Option β
  | [] => none
  | p :: r => if p.1 = k then some p.2 else getL k r
theorem dm_len (g : β → A) (rs : List (Str × β)) : (dm g rs).length = rs.length := by simp [dm]
theorem getK_dm (g : β → A) (k : Str) : ∀ rs : List (Str × β), getK (.inr k : Key) (dm g rs) = (getL k rs).map g
  | [] => rfl
  | p :: r => by
    show (if (Sum.inr p.1 : Key) = .inr k then some (g p.2) else getK (.inr k : Key) (dm g r)) = _
    rw [getK_dm g k r]
    by_cases e : p.1 = k
    · simp [getL, e]
    · have : ¬ (Sum.inr p.1 : Key) = .inr k := fun z => e (Sum.inr.inj z)
      simp [getL, e, this]
theorem putKA_dm (g : β → A) (k : Str) (x : β) (rs : List (Str × β)) : putKA (.inr k) (g x) (dm g rs) = dm g (putL k x rs) := by
  have e1 : ((dm g rs).any fun p => decide (p.1 = (.inr k : Key))) = rs.any fun p => decide (p.1 = k) := by
    unfold dm
    rw [List.any_map]
    congr 1
    funext p
    rw [Bool.eq_iff_iff]
    simp
  unfold putKA putL
  rw [e1]
  split
  · unfold dm
    rw [List.map_map, List.map_map]
    refine List.map_congr_left fun p _ => ?_
    by_cases e : p.1 = k
    · simp [e]
    · have : ¬ (Sum.inr p.1 : Key) = .inr k := fun z => e (Sum.inr.inj z)
      simp [e, this]
  · simp [dm]
theorem getL_some {k : Str} {x : β} : ∀ {rs : List (Str × β)}, getL k rs = some x → (k, x) ∈ rs
  | [], e => by cases e
  | p :: r, e => by
    unfold getL at e
    split at e
    · rename_i h
      cases e
      rw [← h]
      exact List.mem_cons_self
    · exact List.mem_cons_of_mem _ (getL_some e)
theorem getL_isSome (k : Str) : ∀ rs : List (Str × β), (getL k rs).isSome = rs.any fun p => decide (p.1 = k)
  | [] => rfl
  | p :: r => by
    unfold getL
    rw [List.any_cons]
    split
    · rename_i h; simp [h]
    · rename_i h; simp [h, getL_isSome k r]
theorem putL_len (k : Str) (x : β) (rs : List (Str × β)) : (putL k x rs).length ≤ rs.length + 1 := by
  unfold putL
  split <;> simp
end
structure RepT (h : AH) (t m r : Nat) (ms : List (Str × Unit)) (rs : List (Str × List Str)) : Prop where
  ot : h[t]? = some (.ins "Taker" (takerFs (.loc m) (.loc r)))
  om : h[m]? = some (.dic false (dm (fun _ => .bl true) ms))
  or_ : h[r]? = some (.dic false (dm (fun xs => .lst (xs.map A.str)) rs))
  tm : t ≠ m
  tr : t ≠ r
  mr : m ≠ r
def rowL (k : Str) (rs : List (Str × List Str)) : List Str := (getL k rs).getD []
section
variable {Pg : Prog}
theorem RepT.fr {h h' : AH} {t m r : Nat} {ms : List (Str × Unit)} {rs : List (Str × List Str)} {F : Nat → Prop} (R : RepT h t m r ms rs) (f : Fr F h h') (ht : ¬ F t) (hm : ¬ F m) (hr : ¬ F r) : RepT h' t m r ms rs :=
  ⟨f.get R.ot ht, f.get R.om hm, f.get R.or_ hr, R.tm, R.tr, R.mr⟩
theorem s_taker [PTaker Pg] (n : Nat) (h : AH) : ∃ h', callF Pg (n + 1) "Taker.__init__" [.loc h.length] (h ++ [.ins "Taker" []]) = .ok .non h' ∧ RepT h' h.length (h.length + 1) (h.length + 2) [] [] ∧ h'.length = h.length + 3 ∧ Fr No h h' := by
  rw [c_Taker___init__]
  refine ⟨h ++ [.ins "Taker" (takerFs (.loc (h.length + 1)) (.loc (h.length + 2))), .dic false [], .dic false []], ?_, ⟨?_, ?_, ?_, by omega, by omega, by omega⟩, by simp, Fr.app _ _ _⟩
  · simp [f_Taker___init__, dicPut, pairsA, mkDic]
  · simp
  · simp [dm]
  · simp [dm]
@[simp] theorem recv_get {h : AH} (l : Nat) : recvOk .get (.loc l) h = match h[l]? with | some (.dic false _) => true | _ => false := rfl
@[simp] theorem bm_get {h : AH} (l : Nat) (k d : A) : bmOp .get (.loc l) [k, d] h = match h[l]? with | some (.dic _ kvs) => (match keyA k with | some k => .ok ((getK k kvs).getD d) h | none => .bad) | _ => .bad := by
  show (match dicAt h (.loc l) with | some kvs => _ | none => _) = _
  simp only [dicAt]
  cases h[l]? with
  | none => rfl
  | some o => cases o <;> rfl
@[simp] theorem keyA_s (z : Str) : keyA (.str z) = some (.inr z) := rfl
@[simp] theorem keyA_i (i : Int) : keyA (.int i) = some (.inl i) := rfl
/-- x in a list -/
def inLs (x : A) (xs : List A) : Option Bool := if flatA x && xs.all flatA then some (L2.inV (toV x) (xs.map toV)) else none
@[simp] theorem inA_loc {h : AH} (x : A) (l : Nat) : inA h x (.loc l) = match h[l]? with
    | some (.dic _ kvs) => (match keyA x with | some k => some ((getK k kvs).isSome) | none => none)
    | some (.lst xs) => inLs x xs
    | _ => none := rfl
@[simp] theorem inA_tup {h : AH} (x : A) (xs : List A) : inA h x (.tup xs) = inLs x xs := rfl
@[simp] theorem inA_lst {h : AH} (x : A) (xs : List A) : inA h x (.lst xs) = inLs x xs := rfl
theorem inLs_strs (z : Str) (zs : List Str) : inLs (.str z) (zs.map A.str) = some (decide (z ∈ zs)) := by
  unfold inLs
  have e1 : (zs.map A.str).all flatA = true := by
    rw [List.all_map, List.all_eq_true]
    intro p _
    rfl
  rw [e1]
  have e2 : L2.inV (toV (.str z)) ((zs.map A.str).map toV) = decide (z ∈ zs) := by
    rw [L2.inV, List.map_map, List.any_map]
    induction zs with
    | nil => rfl
    | cons y ys ih =>
      rw [List.any_cons, ih (by rw [List.all_map, List.all_eq_true]; intro p _; rfl)]
      show ((y == z) || _) = _
      rw [Bool.eq_iff_iff]
      simp
      constructor
      · rintro (e | e)
        · exact .inl e.symm
        · exact .inr e
      · rintro (e | e)
        · exact .inl e.symm
        · exact .inr e
  rw [e2]
  rfl
@[simp] theorem ix_loc {h : AH} (l : Nat) (b : A) : ixA h (.loc l) b = match h[l]? with
    | some (.lst xs) => (match b with | .int i => L2.atI xs i | _ => none)
    | some (.dic _ kvs) => (match keyA b with | some k => getK k kvs | none => none)
    | _ => none := by cases b <;> rfl
@[simp] theorem len_loc {h : AH} (l : Nat) : lenA h (.loc l) = match h[l]? with
    | some (.lst xs) => some xs.length
    | some (.dic false kvs) => some kvs.length
    | _ => none := rfl
theorem s_take_bad [PTaker Pg] (n : Nat) (t : A) (mk key tx : A) (h : AH) (o1 : okA mk = true) (o2 : okA key = true) (o3 : okA tx = true) (b : (markA mk && nameA key && textA tx) = false) :
    callF Pg (n + 3) "Taker.take" [t, mk, key, tx] h = .exc (if markA mk && !nameA key then "BadName" else "BadText") h := by
  rw [c_Taker_take]
  cases e1 : markA mk
  · simp [f_Taker_take, s_need_mark, o1, e1]
  · cases e2 : nameA key
    · simp [f_Taker_take, s_need_mark, s_need_name, o1, o2, e1, e2]
    · cases e3 : textA tx
      · simp [f_Taker_take, s_need_mark, s_need_name, s_need_text, o1, o2, o3, e1, e2, e3]
      · simp [e1, e2, e3] at b
theorem ok_mark {z : Str} (e : isMark z = true) : okA (.str z) = true := by
  have hl : z.cps.toList.length = z.length := by simp [Str.length]
  unfold isMark at e
  split at e
  · rename_i a b r ez
    rw [ez] at hl
    simp at e hl
    simp [okA]
    omega
  · cases e
theorem ok_name {z : Str} (e : isName z = true) : okA (.str z) = true := by
  simp [isName] at e
  simp [okA]
  omega
theorem ok_text {z : Str} (e : isText z = true) : okA (.str z) = true := by
  simp [isText] at e
  simp [okA]
  omega
theorem s_take [PTaker Pg] (n : Nat) {t m r : Nat} {ms : List (Str × Unit)} {rs : List (Str × List Str)} {mk key tx : Str} {h : AH} (R : RepT h t m r ms rs) (o1 : isMark mk = true) (o2 : isName key = true) (o3 : isText tx = true) (l1 : ms.length ≤ 1000) (l2 : rs.length ≤ 1000) (l3 : (rowL key rs).length ≤ 1000) :
    ∃ h', callF Pg (n + 3) "Taker.take" [.loc t, .str mk, .str key, .str tx] h = .ok (.bl (!(getL mk ms).isSome)) h' ∧ RepT h' t m r (if (getL mk ms).isSome then ms else putL mk () ms) (if (getL mk ms).isSome then rs else putL key (rowL key rs ++ [tx]) rs) ∧ Fr (fun l => l = m ∨ l = r) h h' ∧ h'.length = h.length := by
  rw [c_Taker_take]
  have k1 : markA (.str mk) = true := o1
  have k2 : nameA (.str key) = true := o2
  have k3 : textA (.str tx) = true := o3
  have b1 := s_need_mark (Pg := Pg) (n + 1) (.str mk) h (ok_mark o1)
  have b2 := s_need_name (Pg := Pg) n (.str key) h (ok_name o2)
  have b3 := s_need_text (Pg := Pg) n (.str tx) h (ok_text o3)
  simp [k1, k2, k3] at b1 b2 b3
  cases eg : getL mk ms with
  | some u =>
    refine ⟨h, ?_, by simpa using R, Fr.refl _ _, rfl⟩
    simp [f_Taker_take, b1, b2, b3, R.ot, R.om, getK_dm, eg]
  | none =>
    have ep1 : putKA (.inr mk) (.bl true) (dm (fun _ => .bl true) ms) = dm (fun _ => .bl true) (putL mk () ms) := putKA_dm (fun _ => A.bl true) mk () ms
    have ep2 := putKA_dm (fun xs => A.lst (xs.map A.str)) key (rowL key rs ++ [tx]) rs
    have er : ((getL key rs).map fun xs => A.lst (xs.map A.str)).getD (.lst []) = .lst ((rowL key rs).map A.str) := by
      unfold rowL
      cases getL key rs <;> rfl
    have hm := lt_of_get R.om
    have hr := lt_of_get R.or_
    have g1 : ∀ x, (h.set m x)[r]? = some (.dic false (dm (fun xs => .lst (xs.map A.str)) rs)) := fun x => by rw [List.getElem?_set_ne R.mr]; exact R.or_
    have g2 : ∀ x, (h.set m x)[t]? = some (.ins "Taker" (takerFs (.loc m) (.loc r))) := fun x => by rw [List.getElem?_set_ne R.tm.symm]; exact R.ot
    have z1 : ms.length ≤ 100000 := by omega
    have z2 : rs.length ≤ 100000 := by omega
    have z3 : (rowL key rs).length + 1 ≤ 100000 := by omega
    refine ⟨(h.set m (.dic false (dm (fun _ => .bl true) (putL mk () ms)))).set r (.dic false (dm (fun xs => .lst (xs.map A.str)) (putL key (rowL key rs ++ [tx]) rs))), ?_, ?_, ?_, by simp⟩
    · simp only [List.map_append, List.map_cons, List.map_nil] at ep2
      simp [f_Taker_take, b1, b2, b3, R.ot, R.om, getK_dm, eg, g1, g2, dm_len, ep1, er, z1, z2, z3, ep2]
    · refine ⟨?_, ?_, ?_, R.tm, R.tr, R.mr⟩
      · rw [List.getElem?_set_ne R.tr.symm, g2]
      · rw [List.getElem?_set_ne R.mr.symm]
        simp [hm]
      · simp [hr]
    · exact (Fr.set h _ (.inl rfl)).trans (Fr.set _ _ (.inr rfl))
theorem sortA_strs (zs : List Str) (hl : zs.length < 64) : sortA (zs.map A.str) = some ((sortS zs).map A.str) := by
  cases zs with
  | nil => rfl
  | cons z zs =>
    have e1 : intsA ((z :: zs).map A.str) = none := rfl
    have e2 := strsA_map (z :: zs)
    have e3 : decide (((z :: zs).map A.str).length < 64) = true := by rw [List.length_map]; exact decide_eq_true hl
    simp only [sortA, e3, if_true, e1, e2]
theorem s_names [PTaker Pg] (n : Nat) {t m r : Nat} {ms : List (Str × Unit)} {rs : List (Str × List Str)} {h : AH} (R : RepT h t m r ms rs) (hl : rs.length < 64) :
    callF Pg (n + 1) "Taker.names" [.loc t] h = .ok (.lst ((sortS (rs.map (·.1))).map A.str)) h := by
  rw [c_Taker_names]
  have e : toSort h (.loc r) = some ((rs.map (·.1)).map A.str) := by
    simp only [toSort, R.or_]
    simp [dm, keyV, Function.comp_def]
  have e2 := sortA_strs (rs.map (·.1)) (by simpa using hl)
  simp only [List.map_map] at e e2
  simp [f_Taker_names, R.ot, e, e2]
theorem s_row_bad [PTaker Pg] (n : Nat) (t key : A) (h : AH) (o : okA key = true) (b : nameA key = false) : callF Pg (n + 3) "Taker.row" [t, key] h = .exc "BadName" h := by
  rw [c_Taker_row]
  simp [f_Taker_row, s_need_name, o, b]
theorem s_row [PTaker Pg] (n : Nat) {t m r : Nat} {ms : List (Str × Unit)} {rs : List (Str × List Str)} {key : Str} {h : AH} (R : RepT h t m r ms rs) (o : isName key = true) :
    callF Pg (n + 3) "Taker.row" [.loc t, .str key] h = .ok (.lst ((rowL key rs).map A.str)) h := by
  rw [c_Taker_row]
  have k2 : nameA (.str key) = true := o
  have b2 := s_need_name (Pg := Pg) n (.str key) h (ok_name o)
  simp [k2] at b2
  have er : ((getL key rs).map fun xs => A.lst (xs.map A.str)).getD (.lst []) = .lst ((rowL key rs).map A.str) := by
    unfold rowL
    cases getL key rs <;> rfl
  simp [f_Taker_row, b2, R.ot, R.or_, getK_dm, er]
end
end MC

namespace MC
open PySem L2 MI MT
@[simp] theorem ne_waits_tried : (Str.ofString "waits" = Str.ofString "tried") = False := eq_false (by decide +kernel)
@[simp] theorem ne_waits_done : (Str.ofString "waits" = Str.ofString "done") = False := eq_false (by decide +kernel)
@[simp] theorem ne_waits_put0by : (Str.ofString "waits" = Str.ofString "put by") = False := eq_false (by decide +kernel)
@[simp] theorem ne_waits_gone : (Str.ofString "waits" = Str.ofString "gone") = False := eq_false (by decide +kernel)
@[simp] theorem ne_waits_later : (Str.ofString "waits" = Str.ofString "later") = False := eq_false (by decide +kernel)
@[simp] theorem ne_waits_sent : (Str.ofString "waits" = Str.ofString "sent") = False := eq_false (by decide +kernel)
@[simp] theorem ne_waits_good : (Str.ofString "waits" = Str.ofString "good") = False := eq_false (by decide +kernel)
@[simp] theorem ne_waits_never : (Str.ofString "waits" = Str.ofString "never") = False := eq_false (by decide +kernel)
@[simp] theorem ne_waits_open : (Str.ofString "waits" = Str.ofString "open") = False := eq_false (by decide +kernel)
@[simp] theorem ne_waits_shut : (Str.ofString "waits" = Str.ofString "shut") = False := eq_false (by decide +kernel)
@[simp] theorem ne_waits_trial : (Str.ofString "waits" = Str.ofString "trial") = False := eq_false (by decide +kernel)
@[simp] theorem ne_tried_waits : (Str.ofString "tried" = Str.ofString "waits") = False := eq_false (by decide +kernel)
@[simp] theorem ne_tried_done : (Str.ofString "tried" = Str.ofString "done") = False := eq_false (by decide +kernel)
@[simp] theorem ne_tried_put0by : (Str.ofString "tried" = Str.ofString "put by") = False := eq_false (by decide +kernel)
@[simp] theorem ne_tried_gone : (Str.ofString "tried" = Str.ofString "gone") = False := eq_false (by decide +kernel)
@[simp] theorem ne_tried_later : (Str.ofString "tried" = Str.ofString "later") = False := eq_false (by decide +kernel)
@[simp] theorem ne_tried_sent : (Str.ofString "tried" = Str.ofString "sent") = False := eq_false (by decide +kernel)
@[simp] theorem ne_tried_good : (Str.ofString "tried" = Str.ofString "good") = False := eq_false (by decide +kernel)
@[simp] theorem ne_tried_never : (Str.ofString "tried" = Str.ofString "never") = False := eq_false (by decide +kernel)
@[simp] theorem ne_tried_open : (Str.ofString "tried" = Str.ofString "open") = False := eq_false (by decide +kernel)
@[simp] theorem ne_tried_shut : (Str.ofString "tried" = Str.ofString "shut") = False := eq_false (by decide +kernel)
@[simp] theorem ne_tried_trial : (Str.ofString "tried" = Str.ofString "trial") = False := eq_false (by decide +kernel)
@[simp] theorem ne_done_waits : (Str.ofString "done" = Str.ofString "waits") = False := eq_false (by decide +kernel)
@[simp] theorem ne_done_tried : (Str.ofString "done" = Str.ofString "tried") = False := eq_false (by decide +kernel)
@[simp] theorem ne_done_put0by : (Str.ofString "done" = Str.ofString "put by") = False := eq_false (by decide +kernel)
@[simp] theorem ne_done_gone : (Str.ofString "done" = Str.ofString "gone") = False := eq_false (by decide +kernel)
@[simp] theorem ne_done_later : (Str.ofString "done" = Str.ofString "later") = False := eq_false (by decide +kernel)
@[simp] theorem ne_done_sent : (Str.ofString "done" = Str.ofString "sent") = False := eq_false (by decide +kernel)
@[simp] theorem ne_done_good : (Str.ofString "done" = Str.ofString "good") = False := eq_false (by decide +kernel)
@[simp] theorem ne_done_never : (Str.ofString "done" = Str.ofString "never") = False := eq_false (by decide +kernel)
@[simp] theorem ne_done_open : (Str.ofString "done" = Str.ofString "open") = False := eq_false (by decide +kernel)
@[simp] theorem ne_done_shut : (Str.ofString "done" = Str.ofString "shut") = False := eq_false (by decide +kernel)
@[simp] theorem ne_done_trial : (Str.ofString "done" = Str.ofString "trial") = False := eq_false (by decide +kernel)
@[simp] theorem ne_put0by_waits : (Str.ofString "put by" = Str.ofString "waits") = False := eq_false (by decide +kernel)
@[simp] theorem ne_put0by_tried : (Str.ofString "put by" = Str.ofString "tried") = False := eq_false (by decide +kernel)
@[simp] theorem ne_put0by_done : (Str.ofString "put by" = Str.ofString "done") = False := eq_false (by decide +kernel)
@[simp] theorem ne_put0by_gone : (Str.ofString "put by" = Str.ofString "gone") = False := eq_false (by decide +kernel)
@[simp] theorem ne_put0by_later : (Str.ofString "put by" = Str.ofString "later") = False := eq_false (by decide +kernel)
@[simp] theorem ne_put0by_sent : (Str.ofString "put by" = Str.ofString "sent") = False := eq_false (by decide +kernel)
@[simp] theorem ne_put0by_good : (Str.ofString "put by" = Str.ofString "good") = False := eq_false (by decide +kernel)
@[simp] theorem ne_put0by_never : (Str.ofString "put by" = Str.ofString "never") = False := eq_false (by decide +kernel)
@[simp] theorem ne_put0by_open : (Str.ofString "put by" = Str.ofString "open") = False := eq_false (by decide +kernel)
@[simp] theorem ne_put0by_shut : (Str.ofString "put by" = Str.ofString "shut") = False := eq_false (by decide +kernel)
@[simp] theorem ne_put0by_trial : (Str.ofString "put by" = Str.ofString "trial") = False := eq_false (by decide +kernel)
@[simp] theorem ne_gone_waits : (Str.ofString "gone" = Str.ofString "waits") = False := eq_false (by decide +kernel)
@[simp] theorem ne_gone_tried : (Str.ofString "gone" = Str.ofString "tried") = False := eq_false (by decide +kernel)
@[simp] theorem ne_gone_done : (Str.ofString "gone" = Str.ofString "done") = False := eq_false (by decide +kernel)
@[simp] theorem ne_gone_put0by : (Str.ofString "gone" = Str.ofString "put by") = False := eq_false (by decide +kernel)
@[simp] theorem ne_gone_later : (Str.ofString "gone" = Str.ofString "later") = False := eq_false (by decide +kernel)
@[simp] theorem ne_gone_sent : (Str.ofString "gone" = Str.ofString "sent") = False := eq_false (by decide +kernel)
@[simp] theorem ne_gone_good : (Str.ofString "gone" = Str.ofString "good") = False := eq_false (by decide +kernel)
@[simp] theorem ne_gone_never : (Str.ofString "gone" = Str.ofString "never") = False := eq_false (by decide +kernel)
@[simp] theorem ne_gone_open : (Str.ofString "gone" = Str.ofString "open") = False := eq_false (by decide +kernel)
@[simp] theorem ne_gone_shut : (Str.ofString "gone" = Str.ofString "shut") = False := eq_false (by decide +kernel)
@[simp] theorem ne_gone_trial : (Str.ofString "gone" = Str.ofString "trial") = False := eq_false (by decide +kernel)
@[simp] theorem ne_later_waits : (Str.ofString "later" = Str.ofString "waits") = False := eq_false (by decide +kernel)
@[simp] theorem ne_later_tried : (Str.ofString "later" = Str.ofString "tried") = False := eq_false (by decide +kernel)
@[simp] theorem ne_later_done : (Str.ofString "later" = Str.ofString "done") = False := eq_false (by decide +kernel)
@[simp] theorem ne_later_put0by : (Str.ofString "later" = Str.ofString "put by") = False := eq_false (by decide +kernel)
@[simp] theorem ne_later_gone : (Str.ofString "later" = Str.ofString "gone") = False := eq_false (by decide +kernel)
@[simp] theorem ne_later_sent : (Str.ofString "later" = Str.ofString "sent") = False := eq_false (by decide +kernel)
@[simp] theorem ne_later_good : (Str.ofString "later" = Str.ofString "good") = False := eq_false (by decide +kernel)
@[simp] theorem ne_later_never : (Str.ofString "later" = Str.ofString "never") = False := eq_false (by decide +kernel)
@[simp] theorem ne_later_open : (Str.ofString "later" = Str.ofString "open") = False := eq_false (by decide +kernel)
@[simp] theorem ne_later_shut : (Str.ofString "later" = Str.ofString "shut") = False := eq_false (by decide +kernel)
@[simp] theorem ne_later_trial : (Str.ofString "later" = Str.ofString "trial") = False := eq_false (by decide +kernel)
@[simp] theorem ne_sent_waits : (Str.ofString "sent" = Str.ofString "waits") = False := eq_false (by decide +kernel)
@[simp] theorem ne_sent_tried : (Str.ofString "sent" = Str.ofString "tried") = False := eq_false (by decide +kernel)
@[simp] theorem ne_sent_done : (Str.ofString "sent" = Str.ofString "done") = False := eq_false (by decide +kernel)
@[simp] theorem ne_sent_put0by : (Str.ofString "sent" = Str.ofString "put by") = False := eq_false (by decide +kernel)
@[simp] theorem ne_sent_gone : (Str.ofString "sent" = Str.ofString "gone") = False := eq_false (by decide +kernel)
@[simp] theorem ne_sent_later : (Str.ofString "sent" = Str.ofString "later") = False := eq_false (by decide +kernel)
@[simp] theorem ne_sent_good : (Str.ofString "sent" = Str.ofString "good") = False := eq_false (by decide +kernel)
@[simp] theorem ne_sent_never : (Str.ofString "sent" = Str.ofString "never") = False := eq_false (by decide +kernel)
@[simp] theorem ne_sent_open : (Str.ofString "sent" = Str.ofString "open") = False := eq_false (by decide +kernel)
@[simp] theorem ne_sent_shut : (Str.ofString "sent" = Str.ofString "shut") = False := eq_false (by decide +kernel)
@[simp] theorem ne_sent_trial : (Str.ofString "sent" = Str.ofString "trial") = False := eq_false (by decide +kernel)
@[simp] theorem ne_good_waits : (Str.ofString "good" = Str.ofString "waits") = False := eq_false (by decide +kernel)
@[simp] theorem ne_good_tried : (Str.ofString "good" = Str.ofString "tried") = False := eq_false (by decide +kernel)
@[simp] theorem ne_good_done : (Str.ofString "good" = Str.ofString "done") = False := eq_false (by decide +kernel)
@[simp] theorem ne_good_put0by : (Str.ofString "good" = Str.ofString "put by") = False := eq_false (by decide +kernel)
@[simp] theorem ne_good_gone : (Str.ofString "good" = Str.ofString "gone") = False := eq_false (by decide +kernel)
@[simp] theorem ne_good_later : (Str.ofString "good" = Str.ofString "later") = False := eq_false (by decide +kernel)
@[simp] theorem ne_good_sent : (Str.ofString "good" = Str.ofString "sent") = False := eq_false (by decide +kernel)
@[simp] theorem ne_good_never : (Str.ofString "good" = Str.ofString "never") = False := eq_false (by decide +kernel)
@[simp] theorem ne_good_open : (Str.ofString "good" = Str.ofString "open") = False := eq_false (by decide +kernel)
@[simp] theorem ne_good_shut : (Str.ofString "good" = Str.ofString "shut") = False := eq_false (by decide +kernel)
@[simp] theorem ne_good_trial : (Str.ofString "good" = Str.ofString "trial") = False := eq_false (by decide +kernel)
@[simp] theorem ne_never_waits : (Str.ofString "never" = Str.ofString "waits") = False := eq_false (by decide +kernel)
@[simp] theorem ne_never_tried : (Str.ofString "never" = Str.ofString "tried") = False := eq_false (by decide +kernel)
@[simp] theorem ne_never_done : (Str.ofString "never" = Str.ofString "done") = False := eq_false (by decide +kernel)
@[simp] theorem ne_never_put0by : (Str.ofString "never" = Str.ofString "put by") = False := eq_false (by decide +kernel)
@[simp] theorem ne_never_gone : (Str.ofString "never" = Str.ofString "gone") = False := eq_false (by decide +kernel)
@[simp] theorem ne_never_later : (Str.ofString "never" = Str.ofString "later") = False := eq_false (by decide +kernel)
@[simp] theorem ne_never_sent : (Str.ofString "never" = Str.ofString "sent") = False := eq_false (by decide +kernel)
@[simp] theorem ne_never_good : (Str.ofString "never" = Str.ofString "good") = False := eq_false (by decide +kernel)
@[simp] theorem ne_never_open : (Str.ofString "never" = Str.ofString "open") = False := eq_false (by decide +kernel)
@[simp] theorem ne_never_shut : (Str.ofString "never" = Str.ofString "shut") = False := eq_false (by decide +kernel)
@[simp] theorem ne_never_trial : (Str.ofString "never" = Str.ofString "trial") = False := eq_false (by decide +kernel)
@[simp] theorem ne_open_waits : (Str.ofString "open" = Str.ofString "waits") = False := eq_false (by decide +kernel)
@[simp] theorem ne_open_tried : (Str.ofString "open" = Str.ofString "tried") = False := eq_false (by decide +kernel)
@[simp] theorem ne_open_done : (Str.ofString "open" = Str.ofString "done") = False := eq_false (by decide +kernel)
@[simp] theorem ne_open_put0by : (Str.ofString "open" = Str.ofString "put by") = False := eq_false (by decide +kernel)
@[simp] theorem ne_open_gone : (Str.ofString "open" = Str.ofString "gone") = False := eq_false (by decide +kernel)
@[simp] theorem ne_open_later : (Str.ofString "open" = Str.ofString "later") = False := eq_false (by decide +kernel)
@[simp] theorem ne_open_sent : (Str.ofString "open" = Str.ofString "sent") = False := eq_false (by decide +kernel)
@[simp] theorem ne_open_good : (Str.ofString "open" = Str.ofString "good") = False := eq_false (by decide +kernel)
@[simp] theorem ne_open_never : (Str.ofString "open" = Str.ofString "never") = False := eq_false (by decide +kernel)
@[simp] theorem ne_open_shut : (Str.ofString "open" = Str.ofString "shut") = False := eq_false (by decide +kernel)
@[simp] theorem ne_open_trial : (Str.ofString "open" = Str.ofString "trial") = False := eq_false (by decide +kernel)
@[simp] theorem ne_shut_waits : (Str.ofString "shut" = Str.ofString "waits") = False := eq_false (by decide +kernel)
@[simp] theorem ne_shut_tried : (Str.ofString "shut" = Str.ofString "tried") = False := eq_false (by decide +kernel)
@[simp] theorem ne_shut_done : (Str.ofString "shut" = Str.ofString "done") = False := eq_false (by decide +kernel)
@[simp] theorem ne_shut_put0by : (Str.ofString "shut" = Str.ofString "put by") = False := eq_false (by decide +kernel)
@[simp] theorem ne_shut_gone : (Str.ofString "shut" = Str.ofString "gone") = False := eq_false (by decide +kernel)
@[simp] theorem ne_shut_later : (Str.ofString "shut" = Str.ofString "later") = False := eq_false (by decide +kernel)
@[simp] theorem ne_shut_sent : (Str.ofString "shut" = Str.ofString "sent") = False := eq_false (by decide +kernel)
@[simp] theorem ne_shut_good : (Str.ofString "shut" = Str.ofString "good") = False := eq_false (by decide +kernel)
@[simp] theorem ne_shut_never : (Str.ofString "shut" = Str.ofString "never") = False := eq_false (by decide +kernel)
@[simp] theorem ne_shut_open : (Str.ofString "shut" = Str.ofString "open") = False := eq_false (by decide +kernel)
@[simp] theorem ne_shut_trial : (Str.ofString "shut" = Str.ofString "trial") = False := eq_false (by decide +kernel)
@[simp] theorem ne_trial_waits : (Str.ofString "trial" = Str.ofString "waits") = False := eq_false (by decide +kernel)
@[simp] theorem ne_trial_tried : (Str.ofString "trial" = Str.ofString "tried") = False := eq_false (by decide +kernel)
@[simp] theorem ne_trial_done : (Str.ofString "trial" = Str.ofString "done") = False := eq_false (by decide +kernel)
@[simp] theorem ne_trial_put0by : (Str.ofString "trial" = Str.ofString "put by") = False := eq_false (by decide +kernel)
@[simp] theorem ne_trial_gone : (Str.ofString "trial" = Str.ofString "gone") = False := eq_false (by decide +kernel)
@[simp] theorem ne_trial_later : (Str.ofString "trial" = Str.ofString "later") = False := eq_false (by decide +kernel)
@[simp] theorem ne_trial_sent : (Str.ofString "trial" = Str.ofString "sent") = False := eq_false (by decide +kernel)
@[simp] theorem ne_trial_good : (Str.ofString "trial" = Str.ofString "good") = False := eq_false (by decide +kernel)
@[simp] theorem ne_trial_never : (Str.ofString "trial" = Str.ofString "never") = False := eq_false (by decide +kernel)
@[simp] theorem ne_trial_open : (Str.ofString "trial" = Str.ofString "open") = False := eq_false (by decide +kernel)
@[simp] theorem ne_trial_shut : (Str.ofString "trial" = Str.ofString "shut") = False := eq_false (by decide +kernel)
@[simp] theorem ne_send_try : (Str.ofString "send" = Str.ofString "try") = False := eq_false (by decide +kernel)
@[simp] theorem ne_send_tick : (Str.ofString "send" = Str.ofString "tick") = False := eq_false (by decide +kernel)
@[simp] theorem ne_send_lead : (Str.ofString "send" = Str.ofString "lead") = False := eq_false (by decide +kernel)
@[simp] theorem ne_send_add : (Str.ofString "send" = Str.ofString "add") = False := eq_false (by decide +kernel)
@[simp] theorem ne_send_go0on : (Str.ofString "send" = Str.ofString "go on") = False := eq_false (by decide +kernel)
@[simp] theorem ne_send_drop : (Str.ofString "send" = Str.ofString "drop") = False := eq_false (by decide +kernel)
@[simp] theorem ne_send_change : (Str.ofString "send" = Str.ofString "change") = False := eq_false (by decide +kernel)
@[simp] theorem ne_send_good : (Str.ofString "send" = Str.ofString "good") = False := eq_false (by decide +kernel)
@[simp] theorem ne_send_later : (Str.ofString "send" = Str.ofString "later") = False := eq_false (by decide +kernel)
@[simp] theorem ne_send_never : (Str.ofString "send" = Str.ofString "never") = False := eq_false (by decide +kernel)
@[simp] theorem ne_try_send : (Str.ofString "try" = Str.ofString "send") = False := eq_false (by decide +kernel)
@[simp] theorem ne_try_tick : (Str.ofString "try" = Str.ofString "tick") = False := eq_false (by decide +kernel)
@[simp] theorem ne_try_lead : (Str.ofString "try" = Str.ofString "lead") = False := eq_false (by decide +kernel)
@[simp] theorem ne_try_add : (Str.ofString "try" = Str.ofString "add") = False := eq_false (by decide +kernel)
@[simp] theorem ne_try_go0on : (Str.ofString "try" = Str.ofString "go on") = False := eq_false (by decide +kernel)
@[simp] theorem ne_try_drop : (Str.ofString "try" = Str.ofString "drop") = False := eq_false (by decide +kernel)
@[simp] theorem ne_try_change : (Str.ofString "try" = Str.ofString "change") = False := eq_false (by decide +kernel)
@[simp] theorem ne_try_good : (Str.ofString "try" = Str.ofString "good") = False := eq_false (by decide +kernel)
@[simp] theorem ne_try_later : (Str.ofString "try" = Str.ofString "later") = False := eq_false (by decide +kernel)
@[simp] theorem ne_try_never : (Str.ofString "try" = Str.ofString "never") = False := eq_false (by decide +kernel)
@[simp] theorem ne_tick_send : (Str.ofString "tick" = Str.ofString "send") = False := eq_false (by decide +kernel)
@[simp] theorem ne_tick_try : (Str.ofString "tick" = Str.ofString "try") = False := eq_false (by decide +kernel)
@[simp] theorem ne_tick_lead : (Str.ofString "tick" = Str.ofString "lead") = False := eq_false (by decide +kernel)
@[simp] theorem ne_tick_add : (Str.ofString "tick" = Str.ofString "add") = False := eq_false (by decide +kernel)
@[simp] theorem ne_tick_go0on : (Str.ofString "tick" = Str.ofString "go on") = False := eq_false (by decide +kernel)
@[simp] theorem ne_tick_drop : (Str.ofString "tick" = Str.ofString "drop") = False := eq_false (by decide +kernel)
@[simp] theorem ne_tick_change : (Str.ofString "tick" = Str.ofString "change") = False := eq_false (by decide +kernel)
@[simp] theorem ne_tick_good : (Str.ofString "tick" = Str.ofString "good") = False := eq_false (by decide +kernel)
@[simp] theorem ne_tick_later : (Str.ofString "tick" = Str.ofString "later") = False := eq_false (by decide +kernel)
@[simp] theorem ne_tick_never : (Str.ofString "tick" = Str.ofString "never") = False := eq_false (by decide +kernel)
@[simp] theorem ne_lead_send : (Str.ofString "lead" = Str.ofString "send") = False := eq_false (by decide +kernel)
@[simp] theorem ne_lead_try : (Str.ofString "lead" = Str.ofString "try") = False := eq_false (by decide +kernel)
@[simp] theorem ne_lead_tick : (Str.ofString "lead" = Str.ofString "tick") = False := eq_false (by decide +kernel)
@[simp] theorem ne_lead_add : (Str.ofString "lead" = Str.ofString "add") = False := eq_false (by decide +kernel)
@[simp] theorem ne_lead_go0on : (Str.ofString "lead" = Str.ofString "go on") = False := eq_false (by decide +kernel)
@[simp] theorem ne_lead_drop : (Str.ofString "lead" = Str.ofString "drop") = False := eq_false (by decide +kernel)
@[simp] theorem ne_lead_change : (Str.ofString "lead" = Str.ofString "change") = False := eq_false (by decide +kernel)
@[simp] theorem ne_lead_good : (Str.ofString "lead" = Str.ofString "good") = False := eq_false (by decide +kernel)
@[simp] theorem ne_lead_later : (Str.ofString "lead" = Str.ofString "later") = False := eq_false (by decide +kernel)
@[simp] theorem ne_lead_never : (Str.ofString "lead" = Str.ofString "never") = False := eq_false (by decide +kernel)
@[simp] theorem ne_add_send : (Str.ofString "add" = Str.ofString "send") = False := eq_false (by decide +kernel)
@[simp] theorem ne_add_try : (Str.ofString "add" = Str.ofString "try") = False := eq_false (by decide +kernel)
@[simp] theorem ne_add_tick : (Str.ofString "add" = Str.ofString "tick") = False := eq_false (by decide +kernel)
@[simp] theorem ne_add_lead : (Str.ofString "add" = Str.ofString "lead") = False := eq_false (by decide +kernel)
@[simp] theorem ne_add_go0on : (Str.ofString "add" = Str.ofString "go on") = False := eq_false (by decide +kernel)
@[simp] theorem ne_add_drop : (Str.ofString "add" = Str.ofString "drop") = False := eq_false (by decide +kernel)
@[simp] theorem ne_add_change : (Str.ofString "add" = Str.ofString "change") = False := eq_false (by decide +kernel)
@[simp] theorem ne_add_good : (Str.ofString "add" = Str.ofString "good") = False := eq_false (by decide +kernel)
@[simp] theorem ne_add_later : (Str.ofString "add" = Str.ofString "later") = False := eq_false (by decide +kernel)
@[simp] theorem ne_add_never : (Str.ofString "add" = Str.ofString "never") = False := eq_false (by decide +kernel)
@[simp] theorem ne_go0on_send : (Str.ofString "go on" = Str.ofString "send") = False := eq_false (by decide +kernel)
@[simp] theorem ne_go0on_try : (Str.ofString "go on" = Str.ofString "try") = False := eq_false (by decide +kernel)
@[simp] theorem ne_go0on_tick : (Str.ofString "go on" = Str.ofString "tick") = False := eq_false (by decide +kernel)
@[simp] theorem ne_go0on_lead : (Str.ofString "go on" = Str.ofString "lead") = False := eq_false (by decide +kernel)
@[simp] theorem ne_go0on_add : (Str.ofString "go on" = Str.ofString "add") = False := eq_false (by decide +kernel)
@[simp] theorem ne_go0on_drop : (Str.ofString "go on" = Str.ofString "drop") = False := eq_false (by decide +kernel)
@[simp] theorem ne_go0on_change : (Str.ofString "go on" = Str.ofString "change") = False := eq_false (by decide +kernel)
@[simp] theorem ne_go0on_good : (Str.ofString "go on" = Str.ofString "good") = False := eq_false (by decide +kernel)
@[simp] theorem ne_go0on_later : (Str.ofString "go on" = Str.ofString "later") = False := eq_false (by decide +kernel)
@[simp] theorem ne_go0on_never : (Str.ofString "go on" = Str.ofString "never") = False := eq_false (by decide +kernel)
@[simp] theorem ne_drop_send : (Str.ofString "drop" = Str.ofString "send") = False := eq_false (by decide +kernel)
@[simp] theorem ne_drop_try : (Str.ofString "drop" = Str.ofString "try") = False := eq_false (by decide +kernel)
@[simp] theorem ne_drop_tick : (Str.ofString "drop" = Str.ofString "tick") = False := eq_false (by decide +kernel)
@[simp] theorem ne_drop_lead : (Str.ofString "drop" = Str.ofString "lead") = False := eq_false (by decide +kernel)
@[simp] theorem ne_drop_add : (Str.ofString "drop" = Str.ofString "add") = False := eq_false (by decide +kernel)
@[simp] theorem ne_drop_go0on : (Str.ofString "drop" = Str.ofString "go on") = False := eq_false (by decide +kernel)
@[simp] theorem ne_drop_change : (Str.ofString "drop" = Str.ofString "change") = False := eq_false (by decide +kernel)
@[simp] theorem ne_drop_good : (Str.ofString "drop" = Str.ofString "good") = False := eq_false (by decide +kernel)
@[simp] theorem ne_drop_later : (Str.ofString "drop" = Str.ofString "later") = False := eq_false (by decide +kernel)
@[simp] theorem ne_drop_never : (Str.ofString "drop" = Str.ofString "never") = False := eq_false (by decide +kernel)
@[simp] theorem ne_change_send : (Str.ofString "change" = Str.ofString "send") = False := eq_false (by decide +kernel)
@[simp] theorem ne_change_try : (Str.ofString "change" = Str.ofString "try") = False := eq_false (by decide +kernel)
@[simp] theorem ne_change_tick : (Str.ofString "change" = Str.ofString "tick") = False := eq_false (by decide +kernel)
@[simp] theorem ne_change_lead : (Str.ofString "change" = Str.ofString "lead") = False := eq_false (by decide +kernel)
@[simp] theorem ne_change_add : (Str.ofString "change" = Str.ofString "add") = False := eq_false (by decide +kernel)
@[simp] theorem ne_change_go0on : (Str.ofString "change" = Str.ofString "go on") = False := eq_false (by decide +kernel)
@[simp] theorem ne_change_drop : (Str.ofString "change" = Str.ofString "drop") = False := eq_false (by decide +kernel)
@[simp] theorem ne_change_good : (Str.ofString "change" = Str.ofString "good") = False := eq_false (by decide +kernel)
@[simp] theorem ne_change_later : (Str.ofString "change" = Str.ofString "later") = False := eq_false (by decide +kernel)
@[simp] theorem ne_change_never : (Str.ofString "change" = Str.ofString "never") = False := eq_false (by decide +kernel)
@[simp] theorem ne_good_send : (Str.ofString "good" = Str.ofString "send") = False := eq_false (by decide +kernel)
@[simp] theorem ne_good_try : (Str.ofString "good" = Str.ofString "try") = False := eq_false (by decide +kernel)
@[simp] theorem ne_good_tick : (Str.ofString "good" = Str.ofString "tick") = False := eq_false (by decide +kernel)
@[simp] theorem ne_good_lead : (Str.ofString "good" = Str.ofString "lead") = False := eq_false (by decide +kernel)
@[simp] theorem ne_good_add : (Str.ofString "good" = Str.ofString "add") = False := eq_false (by decide +kernel)
@[simp] theorem ne_good_go0on : (Str.ofString "good" = Str.ofString "go on") = False := eq_false (by decide +kernel)
@[simp] theorem ne_good_drop : (Str.ofString "good" = Str.ofString "drop") = False := eq_false (by decide +kernel)
@[simp] theorem ne_good_change : (Str.ofString "good" = Str.ofString "change") = False := eq_false (by decide +kernel)
@[simp] theorem ne_later_send : (Str.ofString "later" = Str.ofString "send") = False := eq_false (by decide +kernel)
@[simp] theorem ne_later_try : (Str.ofString "later" = Str.ofString "try") = False := eq_false (by decide +kernel)
@[simp] theorem ne_later_tick : (Str.ofString "later" = Str.ofString "tick") = False := eq_false (by decide +kernel)
@[simp] theorem ne_later_lead : (Str.ofString "later" = Str.ofString "lead") = False := eq_false (by decide +kernel)
@[simp] theorem ne_later_add : (Str.ofString "later" = Str.ofString "add") = False := eq_false (by decide +kernel)
@[simp] theorem ne_later_go0on : (Str.ofString "later" = Str.ofString "go on") = False := eq_false (by decide +kernel)
@[simp] theorem ne_later_drop : (Str.ofString "later" = Str.ofString "drop") = False := eq_false (by decide +kernel)
@[simp] theorem ne_later_change : (Str.ofString "later" = Str.ofString "change") = False := eq_false (by decide +kernel)
@[simp] theorem ne_never_send : (Str.ofString "never" = Str.ofString "send") = False := eq_false (by decide +kernel)
@[simp] theorem ne_never_try : (Str.ofString "never" = Str.ofString "try") = False := eq_false (by decide +kernel)
@[simp] theorem ne_never_tick : (Str.ofString "never" = Str.ofString "tick") = False := eq_false (by decide +kernel)
@[simp] theorem ne_never_lead : (Str.ofString "never" = Str.ofString "lead") = False := eq_false (by decide +kernel)
@[simp] theorem ne_never_add : (Str.ofString "never" = Str.ofString "add") = False := eq_false (by decide +kernel)
@[simp] theorem ne_never_go0on : (Str.ofString "never" = Str.ofString "go on") = False := eq_false (by decide +kernel)
@[simp] theorem ne_never_drop : (Str.ofString "never" = Str.ofString "drop") = False := eq_false (by decide +kernel)
@[simp] theorem ne_never_change : (Str.ofString "never" = Str.ofString "change") = False := eq_false (by decide +kernel)
@[simp] theorem ne_rule_now : (Str.ofString "rule" = Str.ofString "now") = False := eq_false (by decide +kernel)
@[simp] theorem ne_rule_roads : (Str.ofString "rule" = Str.ofString "roads") = False := eq_false (by decide +kernel)
@[simp] theorem ne_rule_calls : (Str.ofString "rule" = Str.ofString "calls") = False := eq_false (by decide +kernel)
@[simp] theorem ne_rule_log : (Str.ofString "rule" = Str.ofString "log") = False := eq_false (by decide +kernel)
@[simp] theorem ne_now_rule : (Str.ofString "now" = Str.ofString "rule") = False := eq_false (by decide +kernel)
@[simp] theorem ne_now_roads : (Str.ofString "now" = Str.ofString "roads") = False := eq_false (by decide +kernel)
@[simp] theorem ne_now_calls : (Str.ofString "now" = Str.ofString "calls") = False := eq_false (by decide +kernel)
@[simp] theorem ne_now_log : (Str.ofString "now" = Str.ofString "log") = False := eq_false (by decide +kernel)
@[simp] theorem ne_roads_rule : (Str.ofString "roads" = Str.ofString "rule") = False := eq_false (by decide +kernel)
@[simp] theorem ne_roads_now : (Str.ofString "roads" = Str.ofString "now") = False := eq_false (by decide +kernel)
@[simp] theorem ne_roads_calls : (Str.ofString "roads" = Str.ofString "calls") = False := eq_false (by decide +kernel)
@[simp] theorem ne_roads_log : (Str.ofString "roads" = Str.ofString "log") = False := eq_false (by decide +kernel)
@[simp] theorem ne_calls_rule : (Str.ofString "calls" = Str.ofString "rule") = False := eq_false (by decide +kernel)
@[simp] theorem ne_calls_now : (Str.ofString "calls" = Str.ofString "now") = False := eq_false (by decide +kernel)
@[simp] theorem ne_calls_roads : (Str.ofString "calls" = Str.ofString "roads") = False := eq_false (by decide +kernel)
@[simp] theorem ne_calls_log : (Str.ofString "calls" = Str.ofString "log") = False := eq_false (by decide +kernel)
@[simp] theorem ne_log_rule : (Str.ofString "log" = Str.ofString "rule") = False := eq_false (by decide +kernel)
@[simp] theorem ne_log_now : (Str.ofString "log" = Str.ofString "now") = False := eq_false (by decide +kernel)
@[simp] theorem ne_log_roads : (Str.ofString "log" = Str.ofString "roads") = False := eq_false (by decide +kernel)
@[simp] theorem ne_log_calls : (Str.ofString "log" = Str.ofString "calls") = False := eq_false (by decide +kernel)
@[simp] theorem ne_key_goal : (Str.ofString "key" = Str.ofString "goal") = False := eq_false (by decide +kernel)
@[simp] theorem ne_key_place : (Str.ofString "key" = Str.ofString "place") = False := eq_false (by decide +kernel)
@[simp] theorem ne_key_text : (Str.ofString "key" = Str.ofString "text") = False := eq_false (by decide +kernel)
@[simp] theorem ne_key_word : (Str.ofString "key" = Str.ofString "word") = False := eq_false (by decide +kernel)
@[simp] theorem ne_key_fails : (Str.ofString "key" = Str.ofString "fails") = False := eq_false (by decide +kernel)
@[simp] theorem ne_key_many : (Str.ofString "key" = Str.ofString "many") = False := eq_false (by decide +kernel)
@[simp] theorem ne_key_time : (Str.ofString "key" = Str.ofString "time") = False := eq_false (by decide +kernel)
@[simp] theorem ne_goal_key : (Str.ofString "goal" = Str.ofString "key") = False := eq_false (by decide +kernel)
@[simp] theorem ne_goal_place : (Str.ofString "goal" = Str.ofString "place") = False := eq_false (by decide +kernel)
@[simp] theorem ne_goal_text : (Str.ofString "goal" = Str.ofString "text") = False := eq_false (by decide +kernel)
@[simp] theorem ne_goal_word : (Str.ofString "goal" = Str.ofString "word") = False := eq_false (by decide +kernel)
@[simp] theorem ne_goal_fails : (Str.ofString "goal" = Str.ofString "fails") = False := eq_false (by decide +kernel)
@[simp] theorem ne_goal_many : (Str.ofString "goal" = Str.ofString "many") = False := eq_false (by decide +kernel)
@[simp] theorem ne_goal_time : (Str.ofString "goal" = Str.ofString "time") = False := eq_false (by decide +kernel)
@[simp] theorem ne_place_key : (Str.ofString "place" = Str.ofString "key") = False := eq_false (by decide +kernel)
@[simp] theorem ne_place_goal : (Str.ofString "place" = Str.ofString "goal") = False := eq_false (by decide +kernel)
@[simp] theorem ne_place_text : (Str.ofString "place" = Str.ofString "text") = False := eq_false (by decide +kernel)
@[simp] theorem ne_place_word : (Str.ofString "place" = Str.ofString "word") = False := eq_false (by decide +kernel)
@[simp] theorem ne_place_fails : (Str.ofString "place" = Str.ofString "fails") = False := eq_false (by decide +kernel)
@[simp] theorem ne_place_many : (Str.ofString "place" = Str.ofString "many") = False := eq_false (by decide +kernel)
@[simp] theorem ne_place_time : (Str.ofString "place" = Str.ofString "time") = False := eq_false (by decide +kernel)
@[simp] theorem ne_text_key : (Str.ofString "text" = Str.ofString "key") = False := eq_false (by decide +kernel)
@[simp] theorem ne_text_goal : (Str.ofString "text" = Str.ofString "goal") = False := eq_false (by decide +kernel)
@[simp] theorem ne_text_place : (Str.ofString "text" = Str.ofString "place") = False := eq_false (by decide +kernel)
@[simp] theorem ne_text_word : (Str.ofString "text" = Str.ofString "word") = False := eq_false (by decide +kernel)
@[simp] theorem ne_text_fails : (Str.ofString "text" = Str.ofString "fails") = False := eq_false (by decide +kernel)
@[simp] theorem ne_text_many : (Str.ofString "text" = Str.ofString "many") = False := eq_false (by decide +kernel)
@[simp] theorem ne_text_time : (Str.ofString "text" = Str.ofString "time") = False := eq_false (by decide +kernel)
@[simp] theorem ne_word_key : (Str.ofString "word" = Str.ofString "key") = False := eq_false (by decide +kernel)
@[simp] theorem ne_word_goal : (Str.ofString "word" = Str.ofString "goal") = False := eq_false (by decide +kernel)
@[simp] theorem ne_word_place : (Str.ofString "word" = Str.ofString "place") = False := eq_false (by decide +kernel)
@[simp] theorem ne_word_text : (Str.ofString "word" = Str.ofString "text") = False := eq_false (by decide +kernel)
@[simp] theorem ne_word_fails : (Str.ofString "word" = Str.ofString "fails") = False := eq_false (by decide +kernel)
@[simp] theorem ne_word_many : (Str.ofString "word" = Str.ofString "many") = False := eq_false (by decide +kernel)
@[simp] theorem ne_word_time : (Str.ofString "word" = Str.ofString "time") = False := eq_false (by decide +kernel)
@[simp] theorem ne_fails_key : (Str.ofString "fails" = Str.ofString "key") = False := eq_false (by decide +kernel)
@[simp] theorem ne_fails_goal : (Str.ofString "fails" = Str.ofString "goal") = False := eq_false (by decide +kernel)
@[simp] theorem ne_fails_place : (Str.ofString "fails" = Str.ofString "place") = False := eq_false (by decide +kernel)
@[simp] theorem ne_fails_text : (Str.ofString "fails" = Str.ofString "text") = False := eq_false (by decide +kernel)
@[simp] theorem ne_fails_word : (Str.ofString "fails" = Str.ofString "word") = False := eq_false (by decide +kernel)
@[simp] theorem ne_fails_many : (Str.ofString "fails" = Str.ofString "many") = False := eq_false (by decide +kernel)
@[simp] theorem ne_fails_time : (Str.ofString "fails" = Str.ofString "time") = False := eq_false (by decide +kernel)
@[simp] theorem ne_many_key : (Str.ofString "many" = Str.ofString "key") = False := eq_false (by decide +kernel)
@[simp] theorem ne_many_goal : (Str.ofString "many" = Str.ofString "goal") = False := eq_false (by decide +kernel)
@[simp] theorem ne_many_place : (Str.ofString "many" = Str.ofString "place") = False := eq_false (by decide +kernel)
@[simp] theorem ne_many_text : (Str.ofString "many" = Str.ofString "text") = False := eq_false (by decide +kernel)
@[simp] theorem ne_many_word : (Str.ofString "many" = Str.ofString "word") = False := eq_false (by decide +kernel)
@[simp] theorem ne_many_fails : (Str.ofString "many" = Str.ofString "fails") = False := eq_false (by decide +kernel)
@[simp] theorem ne_many_time : (Str.ofString "many" = Str.ofString "time") = False := eq_false (by decide +kernel)
@[simp] theorem ne_time_key : (Str.ofString "time" = Str.ofString "key") = False := eq_false (by decide +kernel)
@[simp] theorem ne_time_goal : (Str.ofString "time" = Str.ofString "goal") = False := eq_false (by decide +kernel)
@[simp] theorem ne_time_place : (Str.ofString "time" = Str.ofString "place") = False := eq_false (by decide +kernel)
@[simp] theorem ne_time_text : (Str.ofString "time" = Str.ofString "text") = False := eq_false (by decide +kernel)
@[simp] theorem ne_time_word : (Str.ofString "time" = Str.ofString "word") = False := eq_false (by decide +kernel)
@[simp] theorem ne_time_fails : (Str.ofString "time" = Str.ofString "fails") = False := eq_false (by decide +kernel)
@[simp] theorem ne_time_many : (Str.ofString "time" = Str.ofString "many") = False := eq_false (by decide +kernel)
end MC

namespace MC
open PySem L2 MI MT
structure Cal where
  key : Str
  goal : Str
  text : Str
  word : Str
  fails : Int
  time : Int
  many : Int
  place : Str
structure Ru where
  r0 : Int
  r1 : Int
  r2 : Int
  r3 : Int
  r4 : Int
  r5 : Int
structure CS where
  ru : Ru
  clock : Int
  roads : List (Str × Str)
  calls : List Cal
  rows : List (Int × Int × Str)
def ruA (r : Ru) : A := .tup [.int r.r0, .int r.r1, .int r.r2, .int r.r3, .int r.r4, .int r.r5]
def calFs (c : Cal) : List (Str × A) := callFs (.str c.key) (.str c.goal) (.str c.text) (.str c.word) (.int c.fails) (.int c.time) (.int c.many) (.str c.place)
def rowA (r : Int × Int × Str) : A := .tup [.int r.1, .int r.2.1, .str r.2.2]
structure Lay where
  c : Nat
  r : Nat
  k : Nat
  w : Nat
  ls : List Nat
def Lay.F (L : Lay) (x : Nat) : Prop := x = L.c ∨ x = L.r ∨ x = L.k ∨ x = L.w ∨ x ∈ L.ls
/-- numbers and places -/
def numD : Nat → List Nat → List (Key × A)
  | _, [] => []
  | i, l :: ls => (.inl (i : Int), .loc l) :: numD (i + 1) ls
theorem numD_len : ∀ (i : Nat) (ls : List Nat), (numD i ls).length = ls.length
  | _, [] => rfl
  | i, l :: ls => by simp [numD, numD_len (i + 1) ls]
theorem getK_num : ∀ (ls : List Nat) (i j : Nat), getK (.inl ((i + j : Nat) : Int) : Key) (numD i ls) = ls[j]?.map A.loc
  | [], i, j => by simp [numD, getK]
  | l :: ls, i, 0 => by simp [numD, getK]
  | l :: ls, i, j + 1 => by
    have h : ¬ ((Sum.inl (i : Int) : Key) = .inl ((i + (j + 1) : Nat) : Int)) := fun z => by
      have := Sum.inl.inj z
      omega
    have e := getK_num ls (i + 1) j
    have e2 : i + 1 + j = i + (j + 1) := by omega
    rw [e2] at e
    simp only [numD, getK, h, if_false]
    rw [e]
    simp
theorem getK_1 (ls : List Nat) (i : Nat) : getK (.inl ((i : Int) + 1) : Key) (numD 1 ls) = ls[i]?.map A.loc := by
  rw [← getK_num ls 1 i]
  congr 2
  omega
theorem numD_app : ∀ (ls : List Nat) (i l : Nat), numD i (ls ++ [l]) = numD i ls ++ [(.inl ((i + ls.length : Nat) : Int), .loc l)]
  | [], i, l => by simp [numD]
  | x :: ls, i, l => by
    simp only [List.cons_append, numD, numD_app ls (i + 1) l, List.length_cons]
    congr 5
    omega
theorem numD_any : ∀ (ls : List Nat) (i j : Nat), i + ls.length ≤ j → ((numD i ls).any fun p => decide (p.1 = (.inl (j : Int) : Key))) = false
  | [], i, j, h => rfl
  | x :: ls, i, j, h => by
    simp only [List.length_cons] at h
    have hn : ¬ ((Sum.inl (i : Int) : Key) = .inl (j : Int)) := fun z => by
      have := Sum.inl.inj z
      omega
    simp only [numD, List.any_cons, hn, decide_false, Bool.false_or]
    exact numD_any ls (i + 1) j (by omega)
theorem putKA_num (ls : List Nat) (l : Nat) : putKA (.inl ((ls.length : Int) + 1)) (.loc l) (numD 1 ls) = numD 1 (ls ++ [l]) := by
  have e : ((ls.length : Int) + 1) = ((1 + ls.length : Nat) : Int) := by omega
  unfold putKA
  rw [e, numD_any ls 1 (1 + ls.length) (Nat.le_refl _), numD_app]
  rfl
theorem num_keys : ∀ (ls : List Nat) (i : Nat), (numD i ls).map (fun p => keyV p.1) = (List.range' i ls.length).map fun (j : Nat) => A.int j
  | [], i => rfl
  | x :: ls, i => by
    simp only [numD, List.map_cons, num_keys ls (i + 1), List.length_cons, List.range'_succ]
    rfl
/-- a caller in the heap -/
structure Rep (h : AH) (L : Lay) (st : CS) : Prop where
  oc : h[L.c]? = some (.ins "Caller" (callerFs (ruA st.ru) (.int st.clock) (.loc L.r) (.loc L.k) (.loc L.w)))
  or_ : h[L.r]? = some (.dic false (dm A.str st.roads))
  ok : h[L.k]? = some (.dic false (numD 1 L.ls))
  ow : h[L.w]? = some (.lst (st.rows.map rowA))
  len : L.ls.length = st.calls.length
  at_ : ∀ (i : Nat) (l : Nat) (c : Cal), L.ls[i]? = some l → st.calls[i]? = some c → h[l]? = some (.ins "Call" (calFs c))
  cr : L.c ≠ L.r
  ck : L.c ≠ L.k
  cw : L.c ≠ L.w
  rk : L.r ≠ L.k
  rw_ : L.r ≠ L.w
  kw : L.k ≠ L.w
  lc : L.c ∉ L.ls
  lr : L.r ∉ L.ls
  lk : L.k ∉ L.ls
  lw : L.w ∉ L.ls
  nd : L.ls.Nodup
section
variable {h h' : AH} {L : Lay} {st : CS}
theorem Rep.fr {F : Nat → Prop} (R : Rep h L st) (f : Fr F h h') (d : ∀ x, L.F x → ¬ F x) : Rep h' L st where
  oc := f.get R.oc (d _ (.inl rfl))
  or_ := f.get R.or_ (d _ (.inr (.inl rfl)))
  ok := f.get R.ok (d _ (.inr (.inr (.inl rfl))))
  ow := f.get R.ow (d _ (.inr (.inr (.inr (.inl rfl)))))
  len := R.len
  at_ := fun i l c h1 h2 => f.get (R.at_ i l c h1 h2) (d _ (.inr (.inr (.inr (.inr (List.mem_of_getElem? h1))))))
  cr := R.cr
  ck := R.ck
  cw := R.cw
  rk := R.rk
  rw_ := R.rw_
  kw := R.kw
  lc := R.lc
  lr := R.lr
  lk := R.lk
  lw := R.lw
  nd := R.nd
theorem Rep.lt (R : Rep h L st) : ∀ x, L.F x → x < h.length := by
  rintro x (e | e | e | e | e)
  · rw [e]; exact lt_of_get R.oc
  · rw [e]; exact lt_of_get R.or_
  · rw [e]; exact lt_of_get R.ok
  · rw [e]; exact lt_of_get R.ow
  · obtain ⟨i, hi⟩ := List.mem_iff_getElem?.mp e
    have hl : i < L.ls.length := (List.getElem?_eq_some_iff.mp hi).1
    have hc : i < st.calls.length := by rw [← R.len]; exact hl
    exact lt_of_get (R.at_ i x st.calls[i] hi (List.getElem?_eq_getElem hc))
/-- a call's place -/
theorem Rep.call (R : Rep h L st) {i : Nat} {c : Cal} (hc : st.calls[i]? = some c) : ∃ l, L.ls[i]? = some l ∧ h[l]? = some (.ins "Call" (calFs c)) ∧ l ∈ L.ls ∧ L.c ≠ l ∧ L.r ≠ l ∧ L.k ≠ l ∧ L.w ≠ l := by
  have hi : i < st.calls.length := (List.getElem?_eq_some_iff.mp hc).1
  have hl : i < L.ls.length := by rw [R.len]; exact hi
  have e := List.getElem?_eq_getElem hl
  have m : L.ls[i] ∈ L.ls := List.getElem_mem hl
  exact ⟨L.ls[i], e, R.at_ i _ c e hc, m, fun z => R.lc (z ▸ m), fun z => R.lr (z ▸ m), fun z => R.lk (z ▸ m), fun z => R.lw (z ▸ m)⟩
/-- a call is written -/
theorem Rep.setCall (R : Rep h L st) {i l : Nat} (c : Cal) (hl : L.ls[i]? = some l) : Rep (h.set l (.ins "Call" (calFs c))) L { st with calls := st.calls.set i c } := by
  have m := List.mem_of_getElem? hl
  have hi : i < L.ls.length := (List.getElem?_eq_some_iff.mp hl).1
  have ll := R.lt l (.inr (.inr (.inr (.inr m))))
  refine { R with oc := ?_, or_ := ?_, ok := ?_, ow := ?_, len := by simpa using R.len, at_ := fun j m' d h1 h2 => ?_ }
  · rw [List.getElem?_set_ne (fun z => R.lc (by rw [← z]; exact m))]; exact R.oc
  · rw [List.getElem?_set_ne (fun z => R.lr (by rw [← z]; exact m))]; exact R.or_
  · rw [List.getElem?_set_ne (fun z => R.lk (by rw [← z]; exact m))]; exact R.ok
  · rw [List.getElem?_set_ne (fun z => R.lw (by rw [← z]; exact m))]; exact R.ow
  · by_cases e : i = j
    · subst e
      rw [hl] at h1
      cases h1
      have : i < st.calls.length := by rw [← R.len]; exact hi
      rw [List.getElem?_set_self this] at h2
      cases h2
      rw [List.getElem?_set_self ll]
    · have hj : j < L.ls.length := (List.getElem?_eq_some_iff.mp h1).1
      have ne : l ≠ m' := fun z => e ((List.getElem?_inj hi R.nd).mp (by rw [hl, h1, z]))
      dsimp only at h2
      rw [List.getElem?_set_ne e] at h2
      rw [List.getElem?_set_ne ne]
      exact R.at_ j m' d h1 h2
theorem Rep.setClock (R : Rep h L st) (n : Int) : Rep (h.set L.c (.ins "Caller" (callerFs (ruA st.ru) (.int n) (.loc L.r) (.loc L.k) (.loc L.w)))) L { st with clock := n } := by
  refine { R with oc := ?_, or_ := ?_, ok := ?_, ow := ?_, at_ := fun j m' d h1 h2 => ?_ }
  · rw [List.getElem?_set_self (lt_of_get R.oc)]
  · rw [List.getElem?_set_ne R.cr]; exact R.or_
  · rw [List.getElem?_set_ne R.ck]; exact R.ok
  · rw [List.getElem?_set_ne R.cw]; exact R.ow
  · rw [List.getElem?_set_ne (fun z => R.lc (by rw [z]; exact List.mem_of_getElem? h1))]
    exact R.at_ j m' d h1 h2
theorem Rep.setRows (R : Rep h L st) (rows : List (Int × Int × Str)) : Rep (h.set L.w (.lst (rows.map rowA))) L { st with rows := rows } := by
  refine { R with oc := ?_, or_ := ?_, ok := ?_, ow := ?_, at_ := fun j m' d h1 h2 => ?_ }
  · rw [List.getElem?_set_ne R.cw.symm]; exact R.oc
  · rw [List.getElem?_set_ne R.rw_.symm]; exact R.or_
  · rw [List.getElem?_set_ne R.kw.symm]; exact R.ok
  · rw [List.getElem?_set_self (lt_of_get R.ow)]
  · rw [List.getElem?_set_ne (fun z => R.lw (by rw [z]; exact List.mem_of_getElem? h1))]
    exact R.at_ j m' d h1 h2
theorem Rep.setRoads (R : Rep h L st) (rs : List (Str × Str)) : Rep (h.set L.r (.dic false (dm A.str rs))) L { st with roads := rs } := by
  refine { R with oc := ?_, or_ := ?_, ok := ?_, ow := ?_, at_ := fun j m' d h1 h2 => ?_ }
  · rw [List.getElem?_set_ne R.cr.symm]; exact R.oc
  · rw [List.getElem?_set_self (lt_of_get R.or_)]
  · rw [List.getElem?_set_ne R.rk]; exact R.ok
  · rw [List.getElem?_set_ne R.rw_]; exact R.ow
  · rw [List.getElem?_set_ne (fun z => R.lr (by rw [z]; exact List.mem_of_getElem? h1))]
    exact R.at_ j m' d h1 h2
end
end MC

namespace MC
open PySem L2 MI MT
inductive Path (rs : List (Str × Str)) : Str → List Str → Prop
  | stop {n : Str} : getL n rs = some n → Path rs n [n]
  | step {n m : Str} {p : List Str} : getL n rs = some m → m ≠ n → Path rs m p → Path rs n (n :: p)
theorem Path.det {rs : List (Str × Str)} {n : Str} {p q : List Str} (h : Path rs n p) (g : Path rs n q) : p = q := by
  induction h generalizing q with
  | stop e =>
    cases g with
    | stop _ => rfl
    | step e' ne _ => rw [e] at e'; cases e'; exact absurd rfl ne
  | step e ne _ ih =>
    cases g with
    | stop e' => rw [e] at e'; cases e'; exact absurd rfl ne
    | step e' _ g => rw [e] at e'; cases e'; rw [ih g]
theorem Path.sub {rs : List (Str × Str)} {n x : Str} {p : List Str} (h : Path rs n p) (hx : x ∈ p) : ∃ a q, Path rs x q ∧ p = a ++ q := by
  induction h with
  | stop e => rw [List.mem_singleton.mp hx]; exact ⟨[], _, .stop e, rfl⟩
  | step e ne g ih =>
    rcases List.mem_cons.mp hx with z | z
    · rw [z]; exact ⟨[], _, .step e ne g, rfl⟩
    · obtain ⟨a, q, h1, h2⟩ := ih z
      exact ⟨_ :: a, q, h1, by rw [h2]; rfl⟩
theorem Path.nodup {rs : List (Str × Str)} {n : Str} {p : List Str} (h : Path rs n p) : p.Nodup := by
  induction h with
  | stop e => simp
  | @step n m p e ne g ih =>
    rw [List.nodup_cons]
    refine ⟨fun hm => ?_, ih⟩
    obtain ⟨a, q, h1, h2⟩ := g.sub hm
    have := h1.det (.step e ne g)
    have l := congrArg List.length h2
    rw [this] at l
    simp at l
    omega
theorem Path.keys {rs : List (Str × Str)} {n : Str} {p : List Str} (h : Path rs n p) : ∀ x ∈ p, x ∈ rs.map (·.1) := by
  induction h with
  | stop e => intro x hx; rw [List.mem_singleton.mp hx]; exact List.mem_map.mpr ⟨_, getL_some e, rfl⟩
  | step e ne g ih =>
    intro x hx
    rcases List.mem_cons.mp hx with z | z
    · rw [z]; exact List.mem_map.mpr ⟨_, getL_some e, rfl⟩
    · exact ih x z
theorem nodup_le : ∀ {p ks : List Str}, p.Nodup → (∀ x ∈ p, x ∈ ks) → p.length ≤ ks.length
  | [], ks, _, _ => by simp
  | x :: p, ks, h, s => by
    rw [List.nodup_cons] at h
    have hx := s x List.mem_cons_self
    have := nodup_le (ks := ks.erase x) h.2 fun y hy => (List.mem_erase_of_ne (fun z : y = x => h.1 (by rw [← z]; exact hy))).mpr (s y (List.mem_cons_of_mem _ hy))
    rw [List.length_erase_of_mem hx] at this
    have : 0 < ks.length := List.length_pos_of_mem hx
    simp
    omega
theorem Path.len {rs : List (Str × Str)} {n : Str} {p : List Str} (h : Path rs n p) : p.length ≤ rs.length := by
  have := nodup_le h.nodup h.keys
  simpa using this
theorem Path.ne {rs : List (Str × Str)} {n : Str} {p : List Str} (h : Path rs n p) : p ≠ [] := by cases h <;> simp
theorem Path.head {rs : List (Str × Str)} {n : Str} {p : List Str} (h : Path rs n p) : ∃ q, p = n :: q := by cases h with | stop _ => exact ⟨[], rfl⟩ | step _ _ _ => exact ⟨_, rfl⟩
/-- where an address leads in the end -/
def endF (rs : List (Str × Str)) : Nat → Str → Str
  | 0, n => n
  | k + 1, n => match getL n rs with
    | some m => if m = n then n else endF rs k m
    | none => n
theorem Path.endF {rs : List (Str × Str)} {n : Str} {p : List Str} (h : Path rs n p) : ∀ k, p.length ≤ k → MC.endF rs k n = p.getLastD n := by
  induction h with
  | stop e =>
    intro k hk
    cases k with
    | zero => simp at hk
    | succ k => simp [MC.endF, e]
  | @step n m p e ne g ih =>
    intro k hk
    cases k with
    | zero => simp at hk
    | succ k =>
      obtain ⟨q, rfl⟩ := g.head
      have := ih k (by simp at hk ⊢; omega)
      simp only [MC.endF, e, ne, if_false]
      rw [this]
      simp [List.getLastD]
structure RoadsOk (rs : List (Str × Str)) : Prop where
  path : ∀ n, (getL n rs).isSome = true → ∃ p, Path rs n p
  len : rs.length ≤ 5
  name : ∀ p ∈ rs, isName p.1 = true
def endOf (st : CS) (n : Str) : Str := endF st.roads 6 n
theorem getLastD_map (p : List Str) (hp : p ≠ []) (n : Str) : L2.atI (p.map A.str) (-1) = some (.str (p.getLastD n)) := by
  have hl : 0 < p.length := List.length_pos_iff.mpr hp
  unfold L2.atI L2.ixN
  rw [if_neg (by omega), if_pos (by simp; omega)]
  have e : ((-1 : Int) + ((p.map A.str).length : Int)).toNat = p.length - 1 := by simp; omega
  simp only [Option.bind_some, e]
  rw [List.getElem?_map]
  have e2 : p[p.length - 1]? = some (p.getLast hp) := by rw [List.getLast_eq_getElem]; exact List.getElem?_eq_getElem (by omega)
  rw [e2]
  simp [List.getLastD_eq_getLast?, List.getLast?_eq_some_getLast hp]
/-- an address that is there -/
def addrA (rs : List (Str × Str)) : A → Bool
  | .str z => isName z && (getL z rs).isSome
  | _ => false
section
variable {Pg : Prog} {h : AH} {L : Lay} {st : CS}
theorem s_need_address [PCaller Pg] (n : Nat) (R : Rep h L st) (a : A) (ha : okA a = true) : callF Pg (n + 3) "Caller.need_address" [.loc L.c, a] h = if addrA st.roads a then .ok .non h else .exc "BadName" h := by
  rw [c_Caller_need_address]
  have b := s_need_name (Pg := Pg) n a h ha
  cases e : nameA a with
  | false =>
    have e3 : addrA st.roads a = false := by
      cases a with
      | str z => simp only [addrA]; rw [show isName z = false from e]; rfl
      | _ => rfl
    rw [e] at b
    simp at b
    simp [f_Caller_need_address, b, e3]
  | true =>
    rw [e] at b
    simp at b
    cases a with
    | str z =>
      have e' : isName z = true := e
      cases e2 : getL z st.roads <;> simp [f_Caller_need_address, b, R.oc, R.or_, getK_dm, e2, addrA, e']
    | _ => cases e
theorem s_need_ok [PCaller Pg] (n : Nat) (R : Rep h L st) (G : RoadsOk st.roads) {z : Str} (hz : (getL z st.roads).isSome = true) : callF Pg (n + 3) "Caller.need_address" [.loc L.c, .str z] h = .ok .non h := by
  obtain ⟨m, hm⟩ := Option.isSome_iff_exists.mp hz
  have nm := G.name _ (getL_some hm)
  rw [s_need_address n R (.str z) (ok_name nm)]
  have : isName z = true := nm
  simp [addrA, this, hz]
theorem s_road [PCaller Pg] (n : Nat) (R : Rep h L st) {z : Str} {p : List Str} (hp : Path st.roads z p) (hl : p.length ≤ 900) : callF Pg (n + 1) "Caller.road" [.loc L.c, .str z] h = .ok (.loc h.length) (h ++ [.lst (p.map A.str)]) := by
  have key : ∀ (f : Nat) (y : Str) (q : List Str), Path st.roads y q → ∀ (pre : List Str), q.length ≤ f → pre.length + q.length ≤ 1000 →
      whileL (evE Pg (callF Pg n) (.cmp .NotEq (.ix (.fld (.var 0) "roads") (.ix (.var 2) (.neg (.con (.int 1))))) (.ix (.var 2) (.neg (.con (.int 1)))))) (evSs Pg (callF Pg n) (.cons (.exp (.bm (.var 2) .append (.cons (.ix (.fld (.var 0) "roads") (.ix (.var 2) (.neg (.con (.int 1))))) .nil))) .nil)) f [some (.loc L.c), some (.str z), some (.loc h.length)] (h ++ [.lst ((pre ++ [y]).map A.str)]) = .nx [some (.loc L.c), some (.str z), some (.loc h.length)] (h ++ [.lst ((pre ++ q).map A.str)]) := by
    intro f
    induction f with
    | zero => intro y q hq pre h1 _; exact absurd (List.length_eq_zero_iff.mp (Nat.le_zero.mp h1)) hq.ne
    | succ f ih =>
      intro y q hq pre h1 h2
      have l1 := getLastD_map (pre ++ [y]) (by simp) y
      have l2 : (pre ++ [y]).getLastD y = y := by simp
      rw [l2] at l1
      have g1 := fun x => get_app (g := [x]) R.oc
      have g2 := fun x => get_app (g := [x]) R.or_
      cases hq with
      | stop e =>
        generalize (pre ++ [y]).map A.str = PL at l1
        simp only [whileL]
        simp [g1, g2, l1, getK_dm, e]
      | @step _ m q e ne g =>
        have lp : ((pre ++ [y]).map A.str).length ≤ 100000 := by simp; simp at h2; omega
        have r := ih m q g (pre ++ [y]) (by simp at h1; omega) (by simp at h2 ⊢; omega)
        rw [List.append_assoc (bs := [y]) (cs := q)] at r
        have em : ((pre ++ [y]) ++ [m]).map A.str = (pre ++ [y]).map A.str ++ [.str m] := by simp
        rw [em] at r
        generalize (pre ++ [y]).map A.str = PL at l1 lp r
        have r' := r
        simp only [List.cons_append, List.nil_append] at r'
        rw [← r']
        conv => lhs; unfold whileL
        have ne' : ¬ m = y := ne
        simp [g1, g2, l1, getK_dm, e, ne', lp]
  rw [c_Caller_road]
  have r := key 1000 z p hp [] (by omega) (by simp; omega)
  simp only [List.nil_append, List.map_cons, List.map_nil] at r
  simp only [f_Caller_road]
  simp [newL, r]
theorem s_end_bad [PCaller Pg] (n : Nat) (R : Rep h L st) (a : A) (ha : okA a = true) (hb : addrA st.roads a = false) : callF Pg (n + 4) "Caller.end_of" [.loc L.c, a] h = .exc "BadName" h := by
  rw [c_Caller_end_of]
  have b := s_need_address (Pg := Pg) n R a ha
  rw [hb] at b
  simp at b
  simp [f_Caller_end_of, R.oc, b]
theorem s_end_of [PCaller Pg] (n : Nat) (R : Rep h L st) (G : RoadsOk st.roads) {z : Str} (hz : (getL z st.roads).isSome = true) : ∃ g, callF Pg (n + 4) "Caller.end_of" [.loc L.c, .str z] h = .ok (.str (endOf st z)) (h ++ [.lst g]) := by
  rw [c_Caller_end_of]
  obtain ⟨p, hp⟩ := G.path z hz
  have hl := hp.len
  have hg := G.len
  have b := s_need_ok (Pg := Pg) n R G hz
  have r := s_road (Pg := Pg) (n + 2) R hp (by omega)
  have l1 := getLastD_map p hp.ne z
  refine ⟨p.map A.str, ?_⟩
  have e : endOf st z = p.getLastD z := hp.endF 6 (by omega)
  rw [e]
  generalize p.map A.str = PL at l1 r
  simp [f_Caller_end_of, R.oc, b, r, l1]
end
end MC

namespace MC
open PySem L2 MI MT
def CS.say (st : CS) (num : Int) (w : Str) : CS := { st with rows := st.rows ++ [(st.clock, num, w)] }
def CS.put (st : CS) (i : Nat) (c : Cal) : CS := { st with calls := st.calls.set i c }
def Ru.ok (r : Ru) : Prop := Rl r.r0 r.r1 r.r2 r.r3 r.r4 r.r5
def Ru.wait (r : Ru) (f : Int) : Int := W r.r0 r.r1 r.r2 f.toNat
def failC (st : CS) (c : Cal) : Cal := if st.ru.r3 ≤ c.fails + 1 then { c with fails := c.fails + 1, word := "put by" } else { c with fails := c.fails + 1, word := "waits", time := st.clock + st.ru.wait (c.fails + 1) }
def failW (st : CS) (c : Cal) : Str := if st.ru.r3 ≤ c.fails + 1 then "put by" else "later"
def failS (st : CS) (i : Nat) (c : Cal) : CS := (st.put i (failC st c)).say ((i : Int) + 1) (failW st c)
section
variable {Pg : Prog} {h : AH} {L : Lay} {st : CS}
@[simp] theorem at_ru3 (r : Ru) {h : AH} : ixA h (ruA r) (.int 3) = some (.int r.r3) := rfl
@[simp] theorem at_ru4 (r : Ru) {h : AH} : ixA h (ruA r) (.int 4) = some (.int r.r4) := rfl
@[simp] theorem at_ru5 (r : Ru) {h : AH} : ixA h (ruA r) (.int 5) = some (.int r.r5) := rfl
theorem s_say [PCaller Pg] (n : Nat) (R : Rep h L st) (num : Int) (w : Str) (hr : st.rows.length ≤ 90000) : callF Pg (n + 1) "Caller.say" [.loc L.c, .int num, .str w] h = .ok .non (h.set L.w (.lst ((st.rows ++ [(st.clock, num, w)]).map rowA))) := by
  rw [c_Caller_say]
  have hl : (st.rows.map rowA).length ≤ 100000 := by simp; omega
  have e : (st.rows ++ [(st.clock, num, w)]).map rowA = st.rows.map rowA ++ [.tup [.int st.clock, .int num, .str w]] := by simp [rowA]
  rw [e]
  have ow := R.ow
  generalize st.rows.map rowA = RL at ow hl
  simp [f_Caller_say, R.oc, ow, hl]
theorem Rep.say (R : Rep h L st) (num : Int) (w : Str) : Rep (h.set L.w (.lst ((st.rows ++ [(st.clock, num, w)]).map rowA))) L (st.say num w) := R.setRows _
theorem s_fail [PCaller Pg] (n : Nat) (R : Rep h L st) (rl : st.ru.ok) {i : Nat} {c : Cal} (hc : st.calls[i]? = some c) (hf : 0 ≤ c.fails ∧ c.fails < st.ru.r3) (hr : st.rows.length ≤ 90000) :
    ∃ h', callF Pg (n + 2) "Caller.fail" [.loc L.c, .int ((i : Int) + 1)] h = .ok .non h' ∧ Rep h' L (failS st i c) ∧ Fr L.F h h' ∧ h'.length = h.length := by
  rw [c_Caller_fail]
  obtain ⟨l, e1, e2, m, nc, nr, nk, nw⟩ := R.call hc
  have hl := lt_of_get e2
  have R' := R.setCall (failC st c) e1
  have sy := s_say (Pg := Pg) n R' ((i : Int) + 1) (failW st c) hr
  have g0 : getK (.inl ((i : Int) + 1) : Key) (numD 1 L.ls) = some (.loc l) := by rw [getK_1, e1]; rfl
  have gc : ∀ x, (h.set l x)[L.c]? = _ := fun x => (List.getElem?_set_ne nc.symm).trans R.oc
  have gl : ∀ x, (h.set l x)[l]? = some x := fun x => List.getElem?_set_self hl
  refine ⟨_, ?_, R'.say _ _, (Fr.set h _ (.inr (.inr (.inr (.inr m))))).trans (Fr.set _ _ (.inr (.inr (.inr (.inl rfl))))), by simp⟩
  by_cases q : st.ru.r3 ≤ c.fails + 1
  · simp [failC, failW, q, calFs] at sy ⊢
    simp only [calFs] at e2
    simp [f_Caller_fail, R.oc, R.ok, g0, e2, gc, gl, q, sy]
  · have r5 := rl.b3
    have wf := s_wait_of (Pg := Pg) rl n (c.fails + 1).toNat (by omega) (h.set l (.ins "Call" (callFs (.str c.key) (.str c.goal) (.str c.text) (.str "waits") (.int (c.fails + 1)) (.int c.time) (.int c.many) (.str c.place))))
    have tn : (((c.fails + 1).toNat : Nat) : Int) = c.fails + 1 := by omega
    rw [tn] at wf
    simp [failC, failW, q, calFs] at sy ⊢
    simp only [calFs] at e2
    have wf2 : callF Pg (n + 1) "wait_of" [ruA st.ru, .int (c.fails + 1)] (h.set l (.ins "Call" (callFs (.str c.key) (.str c.goal) (.str c.text) (.str "waits") (.int (c.fails + 1)) (.int c.time) (.int c.many) (.str c.place)))) = .ok (.int (st.ru.wait (c.fails + 1))) (h.set l (.ins "Call" (callFs (.str c.key) (.str c.goal) (.str c.text) (.str "waits") (.int (c.fails + 1)) (.int c.time) (.int c.many) (.str c.place)))) := wf
    simp [f_Caller_fail, R.oc, R.ok, g0, e2, gc, gl, q, wf2, sy]
/-- a number of a call -/
theorem s_call_bad [PCaller Pg] (n : Nat) (R : Rep h L st) (a : A) (ha : notLoc a = true) (hb : isCnt a 1 st.calls.length = false) : callF Pg (n + 2) "Caller.call" [.loc L.c, a] h = .exc "BadCall" h := by
  rw [c_Caller_call]
  have e := s_is_count (Pg := Pg) n a 1 st.calls.length h ha
  rw [hb] at e
  simp [f_Caller_call, R.oc, R.ok, numD_len, R.len, e]
theorem s_call [PCaller Pg] (n : Nat) (R : Rep h L st) {i l : Nat} (hl : L.ls[i]? = some l) : callF Pg (n + 2) "Caller.call" [.loc L.c, .int ((i : Int) + 1)] h = .ok (.loc l) h := by
  rw [c_Caller_call]
  have hi : i < L.ls.length := (List.getElem?_eq_some_iff.mp hl).1
  have e := s_is_count (Pg := Pg) n (.int ((i : Int) + 1)) 1 st.calls.length h rfl
  have hc : isCnt (.int ((i : Int) + 1)) 1 st.calls.length = true := by
    have := R.len
    simp [isCnt]
    omega
  rw [hc] at e
  have g0 : getK (.inl ((i : Int) + 1) : Key) (numD 1 L.ls) = some (.loc l) := by rw [getK_1, hl]; rfl
  simp [f_Caller_call, R.oc, R.ok, numD_len, R.len, e, g0]
theorem insI_lo {i : Int} : ∀ {js : List Int}, (∀ j ∈ js, i ≤ j) → insI i js = i :: js
  | [], _ => rfl
  | j :: js, h => by unfold insI; rw [if_pos (h j List.mem_cons_self)]
theorem sortI_asc : ∀ (m i : Nat), sortI ((List.range' i m).map fun (j : Nat) => (j : Int)) = (List.range' i m).map fun (j : Nat) => (j : Int)
  | 0, i => rfl
  | m + 1, i => by
    simp only [List.range'_succ, List.map_cons, sortI, sortI_asc m (i + 1)]
    refine insI_lo fun j hj => ?_
    obtain ⟨x, hx, rfl⟩ := List.mem_map.mp hj
    have := List.mem_range'.mp hx
    omega
theorem intsA_map : ∀ is : List Int, intsA (is.map A.int) = some is
  | [] => rfl
  | i :: is => by simp [intsA, intsA_map is]
/-- the numbers 1 .. m -/
def nums (m : Nat) : List A := (List.range m).map fun (i : Nat) => A.int ((i : Int) + 1)
theorem nums_eq (m : Nat) : nums m = ((List.range' 1 m).map fun (j : Nat) => (j : Int)).map A.int := by
  unfold nums
  rw [List.range'_eq_map_range, List.map_map, List.map_map]
  refine List.map_congr_left fun i _ => ?_
  show A.int _ = A.int _
  congr 1
  simp
  omega
theorem nums_len (m : Nat) : (nums m).length = m := by simp [nums]
theorem nums_at {m i : Nat} {x : A} (e : (nums m)[i]? = some x) : i < m ∧ x = .int ((i : Int) + 1) := by
  have hi : i < m := by have := (List.getElem?_eq_some_iff.mp e).1; rwa [nums_len] at this
  refine ⟨hi, ?_⟩
  simp [nums, hi] at e
  exact e.symm
theorem s_numbers [PCaller Pg] (n : Nat) (R : Rep h L st) (hl : st.calls.length < 64) : callF Pg (n + 1) "Caller.numbers" [.loc L.c] h = .ok (.lst (nums st.calls.length)) h := by
  rw [c_Caller_numbers]
  have e : toSort h (.loc L.k) = some (nums st.calls.length) := by
    simp only [toSort, R.ok]
    rw [num_keys, nums_eq, R.len, List.map_map]
    rfl
  have e2 : sortA (nums st.calls.length) = some (nums st.calls.length) := by
    unfold sortA
    rw [if_pos (by rw [nums_len]; exact decide_eq_true hl)]
    rw [nums_eq, intsA_map]
    dsimp only
    rw [sortI_asc]
  simp [f_Caller_numbers, R.oc, e, e2]
end
end MC

namespace MC
open PySem L2 MI MT
def isEnd (w : Str) : Bool := decide (w = "done") || decide (w = "gone")
def isFirst (st : CS) (i : Nat) (key : Str) : Bool := (st.calls.take i).all fun d => !decide (d.key = key) || isEnd d.word
def busyC (g : Str) (c : Cal) : Bool := decide (c.word = "tried") && decide (c.place = g)
def busy (st : CS) (g : Str) : Nat := (st.calls.filter (busyC g)).length
def dueB (st : CS) (i : Nat) (c : Cal) : Bool := decide (c.word = "waits") && decide (c.time ≤ st.clock) && isFirst st i c.key && decide ((busy st (endOf st c.goal) : Int) < st.ru.r5)
def dueAt (st : CS) (i : Nat) : Bool := match st.calls[i]? with | some c => dueB st i c | none => false
def dueL (st : CS) : List Nat := (List.range st.calls.length).filter (dueAt st)
theorem inLs2 (w a b : Str) : inLs (.str w) [.str a, .str b] = some (decide (w = a) || decide (w = b)) := by
  have := inLs_strs w [a, b]
  simp only [List.map_cons, List.map_nil] at this
  rw [this]
  congr 1
  rw [Bool.eq_iff_iff]
  simp
theorem eq_nil {h : AH} {v : Nat} {xs : List A} (e : h[v]? = some (.lst xs)) : eqA h (.loc v) (.lst []) = some xs.isEmpty := by
  have e1 : listAt h (.loc v) = some xs := by simp only [listAt, e]
  show eqL h (.loc v) (.lst []) = _
  unfold eqL
  rw [e1]
  cases xs with
  | nil =>
    show (if ([] : List A).length = ([] : List A).length then eqD h (.loc v) (.lst []) else some false) = _
    rw [if_pos rfl]
    exact eqD_data (d := .list []) (e := .list []) (by simp only [dataOf, e]; rfl) rfl (by decide) (by decide)
  | cons x xs => rfl
section
variable {Pg : Prog} {h : AH} {L : Lay} {st : CS}
theorem Rep.pick (R : Rep h L st) {j : Nat} (hj : j < st.calls.length) : ∃ l d, L.ls[j]? = some l ∧ st.calls[j]? = some d ∧ h[l]? = some (.ins "Call" (calFs d)) := by
  have hl : j < L.ls.length := by rw [R.len]; exact hj
  exact ⟨_, _, List.getElem?_eq_getElem hl, List.getElem?_eq_getElem hj, R.at_ j _ _ (List.getElem?_eq_getElem hl) (List.getElem?_eq_getElem hj)⟩
def endL (Pg : Prog) (h : AH) (x : A) : Bool := match fldA Pg h x "word" with | some (.str w) => isEnd w | _ => false
theorem s_is_first [PCaller Pg] (n : Nat) (R : Rep h L st) (hn : st.calls.length ≤ 30) {i : Nat} {c : Cal} (hc : st.calls[i]? = some c) : callF Pg (n + 1) "Caller.is_first" [.loc L.c, .int ((i : Int) + 1)] h = .ok (.bl (isFirst st i c.key)) h := by
  rw [c_Caller_is_first]
  have hi : i < st.calls.length := (List.getElem?_eq_some_iff.mp hc).1
  obtain ⟨l, e1, e2, _⟩ := R.call hc
  have g0 : getK (.inl ((i : Int) + 1) : Key) (numD 1 L.ls) = some (.loc l) := by rw [getK_1, e1]; rfl
  let g : Nat → Option A := fun j => match st.calls[j]?, L.ls[j]? with | some d, some l => if d.key = c.key then some (.loc l) else none | _, _ => none
  simp only [calFs] at e2
  have key : ∀ s : ASt, s[0]? = some (some (.loc L.c)) → s[2]? = some (some (.str c.key)) → s.length = 6 → compL (rngN 1 i) (compB Pg (callF Pg n) (.ix (.fld (.var 0) "calls") (.var 4)) (.nm 4) (.cons (.cmp .Eq (.fld (.ix (.fld (.var 0) "calls") (.var 4)) "key") (.var 2)) .nil) [5, 4] s) (i + 1) 0 [] h = .ok ((List.range i).filterMap g) h := fun s s0 s2 sl => by
    refine comp_rng g (fun j hj => ?_) (by omega)
    obtain ⟨m, d, q1, q2, q3⟩ := R.pick (j := j) (by omega)
    have g1 : getK (.inl (1 + (j : Int)) : Key) (numD 1 L.ls) = some (.loc m) := by rw [Int.add_comm, getK_1, q1]; rfl
    simp only [calFs] at q3
    have h4 : 4 < s.length := by omega
    by_cases ek : d.key = c.key <;> simp [g, q1, q2, List.getElem?_set, s0, s2, h4, R.oc, R.ok, g1, q3, ek]
  have key2 : ∀ s : ASt, s.length = 6 → compL (seqN ((List.range i).filterMap g)) (compB Pg (callF Pg n) (.cmp .In (.fld (.var 4) "word") (.tup (.cons (.con (.str "done")) (.cons (.con (.str "gone")) .nil)))) (.nm 4) .nil [5, 4] s) (((List.range i).filterMap g).length + 1) 0 [] h = .ok (((List.range i).filterMap g).filterMap fun x => some (.bl (endL Pg h x))) h := fun s sl => by
    refine comp_seq _ (fun x hx => ?_) ?_
    · obtain ⟨j, hj, ej⟩ := List.mem_filterMap.mp hx
      obtain ⟨m, d, q1, q2, q3⟩ := R.pick (j := j) (by have := List.mem_range.mp hj; omega)
      simp only [calFs] at q3
      have h4 : 4 < s.length := by omega
      by_cases ek : d.key = c.key
      · simp [g, q1, q2, ek] at ej
        subst ej
        simp [List.getElem?_set, h4, q3, inLs2, endL, isEnd]
      · simp [g, q1, q2, ek] at ej
    · have := List.length_filterMap_le g (List.range i)
      simp at this
      omega
  have fin : (boolsA (((List.range i).filterMap g).filterMap fun x => some (.bl (endL Pg h x)))).map (fun bs => A.bl (bs.all id)) = some (.bl (isFirst st i c.key)) := by
    rw [filterMap_some, boolsA_map]
    simp only [Option.map_some, Option.some.injEq, A.bl.injEq]
    rw [List.all_map, List.all_filterMap]
    unfold isFirst
    rw [Bool.eq_iff_iff, List.all_eq_true, List.all_eq_true]
    constructor
    · intro q d hd
      obtain ⟨j, hj⟩ := List.mem_iff_getElem?.mp hd
      have hji : j < i := by have := (List.getElem?_eq_some_iff.mp hj).1; simp at this; omega
      rw [List.getElem?_take_of_lt hji] at hj
      obtain ⟨m, d', q1, q2, q3⟩ := R.pick (j := j) (by omega)
      rw [hj] at q2
      cases q2
      have := q j (List.mem_range.mpr hji)
      simp only [calFs] at q3
      by_cases ek : d.key = c.key
      · simp [g, q1, hj, ek, endL, q3] at this
        simp [this]
      · simp [ek]
    · intro q j hj
      have hji := List.mem_range.mp hj
      obtain ⟨m, d, q1, q2, q3⟩ := R.pick (j := j) (by omega)
      have := q d (List.mem_iff_getElem?.mpr ⟨j, by rw [List.getElem?_take_of_lt hji]; exact q2⟩)
      simp only [calFs] at q3
      by_cases ek : d.key = c.key
      · simp [ek] at this
        simp [g, q1, q2, ek, endL, q3, this]
      · simp [g, q1, q2, ek]
  have k1 := key [some (.loc L.c), some (.int ((i : Int) + 1)), some (.str c.key), none, none, none] rfl rfl rfl
  have k2 := key2 [some (.loc L.c), some (.int ((i : Int) + 1)), some (.str c.key), some (.lst ((List.range i).filterMap g)), none, none] rfl
  have er : ∀ s : ASt, s[1]? = some (some (.int ((i : Int) + 1))) → evI Pg (callF Pg n) (.rng2 (.con (.int 1)) (.var 1)) s h = .ok ⟨rngN 1 i, i + 1, none⟩ h := fun s s1 => ev_rng2 (h1 := h) (i := 1) (j := (i : Int) + 1) i (by simp) (by simp [s1]) (by omega) (by omega) (by omega) (by omega)
  have er' := er [some (.loc L.c), some (.int ((i : Int) + 1)), some (.str c.key), none, none, none] rfl
  generalize ((List.range i).filterMap g).filterMap (fun x => some (A.bl (endL Pg h x))) = BL at k2 fin
  generalize (List.range i).filterMap g = GL at k1 k2
  simp only [f_Caller_is_first]
  simp only [runFn_eq, List.length_cons, List.length_nil, startA_eq, List.map_cons, List.map_nil, List.cons_append, List.nil_append, List.replicate]
  simp [R.oc, R.ok, g0, e2, er', k1, newL, k2, fin]
end
end MC

namespace MC
open PySem L2 MI MT
theorem fm_congr {α β : Type} {f g : α → Option β} : ∀ {xs : List α}, (∀ x ∈ xs, f x = g x) → xs.filterMap f = xs.filterMap g
  | [], _ => rfl
  | x :: xs, h => by rw [List.filterMap_cons, List.filterMap_cons, h x List.mem_cons_self, fm_congr fun y hy => h y (List.mem_cons_of_mem _ hy)]
section
variable {Pg : Prog} {h : AH} {L : Lay} {st : CS}
theorem run_at {cf : Str → List A → AH → R A} {fn : Fn} {vs : List A} {h : AH} {r : F} (hl : vs.length = fn.ps) (e : evSs Pg cf fn.body (startA fn.slots vs) h = r) : runFn Pg cf fn vs h = r.toR := by
  rw [runFn_eq, if_pos hl, e]
@[simp] theorem unlk_none {h : AH} : unlk h none = some h := rfl
theorem un_same {h : AH} {l : Nat} {o x : AO} (e : h[l]? = some o) : (h.set l x).set l o = h := by
  rw [List.set_set]
  apply List.ext_getElem?
  intro i
  by_cases q : l = i
  · subst q
    rw [List.getElem?_set_self (lt_of_get e), e]
  · rw [List.getElem?_set_ne q]
theorem unlk_set {h : AH} {l : Nat} {kvs : List (Key × A)} (e : h[l]? = some (.dic false kvs)) : unlk (h.set l (.dic true kvs)) (some l) = some h := by
  have hl := lt_of_get e
  simp only [unlk, List.getElem?_set_self hl]
  rw [un_same e]
def busyX (Pg : Prog) (h : AH) (g : Str) (x : A) : Bool := match fldA Pg h x "word", fldA Pg h x "place" with | some (.str w), some (.str p) => decide (w = "tried") && decide (p = g) | _, _ => false
theorem s_busy [PCaller Pg] (n : Nat) (R : Rep h L st) (hn : st.calls.length ≤ 30) (g : Str) : callF Pg (n + 1) "Caller.busy" [.loc L.c, .str g] h = .ok (.int (busy st g)) h := by
  rw [c_Caller_busy]
  have hk := lt_of_get R.ok
  have lkd : (h.set L.k (.dic true (numD 1 L.ls)))[L.k]? = some (.dic true (numD 1 L.ls)) := List.getElem?_set_self hk
  have gc : (h.set L.k (.dic true (numD 1 L.ls)))[L.c]? = _ := (List.getElem?_set_ne R.ck.symm).trans R.oc
  have nl : (nums L.ls.length).length = L.ls.length := nums_len _
  have ln := R.len
  have key : ∀ s : ASt, s[0]? = some (some (.loc L.c)) → s.length = 6 → compL (fun i h => keyAt h L.k i) (compB Pg (callF Pg n) (.ix (.fld (.var 0) "calls") (.var 3)) (.nm 3) .nil [5, 3] s) (L.ls.length + 1) 0 [] (h.set L.k (.dic true (numD 1 L.ls))) = .ok (L.ls.map A.loc) (h.set L.k (.dic true (numD 1 L.ls))) := fun s s0 sl => by
    have := comp_pure (nx := fun i h => keyAt h L.k i) (bd := compB Pg (callF Pg n) (.ix (.fld (.var 0) "calls") (.var 3)) (.nm 3) .nil [5, 3] s) (xs := nums L.ls.length) (h := h.set L.k (.dic true (numD 1 L.ls))) (fun x => match x with | .int j => (L.ls[(j - 1).toNat]?).map A.loc | _ => none) (fun i => by
      simp only [keyAt, lkd]
      rw [← List.getElem?_map]
      have e := num_keys L.ls 1
      rw [show (numD 1 L.ls).map (fun p => keyV p.1) = nums L.ls.length from e.trans (by rw [nums_eq, List.map_map]; rfl)]) (fun x hx => by
        obtain ⟨j, hj⟩ := List.mem_iff_getElem?.mp hx
        obtain ⟨hj1, rfl⟩ := nums_at hj
        have g1 : getK (.inl ((j : Int) + 1) : Key) (numD 1 L.ls) = some (.loc L.ls[j]) := by rw [getK_1, List.getElem?_eq_getElem hj1]; rfl
        have h3 : 3 < s.length := by omega
        have ej : ((j : Int) + 1 - 1).toNat = j := by omega
        simp [List.getElem?_set, h3, s0, gc, lkd, g1, ej, hj1]) (by omega)
    rw [nl] at this
    rw [this]
    congr 1
    unfold nums
    rw [List.filterMap_map]
    have e : ((fun x => match x with | .int j => (L.ls[(j - 1).toNat]?).map A.loc | _ => none) ∘ fun (i : Nat) => A.int ((i : Int) + 1)) = fun i => (L.ls[i]?).map A.loc := by
      funext i
      have ej : ((i : Int) + 1 - 1).toNat = i := by omega
      simp only [Function.comp_apply, ej]
    rw [e]
    apply List.ext_getElem?
    intro i
    have ff : ∀ (xs : List Nat) (k : Nat), ((List.range' k xs.length).filterMap fun i => (xs[i - k]?).map A.loc) = xs.map A.loc := by
      intro xs
      induction xs with
      | nil => intro k; rfl
      | cons x xs ih =>
        intro k
        rw [List.length_cons, List.range'_succ, List.filterMap_cons]
        simp only [Nat.sub_self, List.getElem?_cons_zero, Option.map_some, List.map_cons]
        congr 1
        rw [← ih (k + 1)]
        refine fm_congr fun i hi => ?_
        have := List.mem_range'.mp hi
        have e : i - k = (i - (k + 1)) + 1 := by omega
        rw [e, List.getElem?_cons_succ]
    have := ff L.ls 0
    rw [← List.range_eq_range'] at this
    simp only [Nat.sub_zero] at this
    rw [this]
  have key2 : ∀ s : ASt, s[1]? = some (some (.str g)) → s.length = 6 → compL (seqN (L.ls.map A.loc)) (compB Pg (callF Pg n) (.var 4) (.nm 4) (.cons (.and (.cmp .Eq (.fld (.var 4) "word") (.con (.str "tried"))) (.cmp .Eq (.fld (.var 4) "place") (.var 1))) .nil) [5, 4] s) ((L.ls.map A.loc).length + 1) 0 [] h = .ok ((L.ls.map A.loc).filterMap fun x => if busyX Pg h g x then some x else none) h := fun s s1 sl => by
    refine comp_seq _ (fun x hx => ?_) (by simp; omega)
    obtain ⟨l, hl, rfl⟩ := List.mem_map.mp hx
    obtain ⟨j, hj⟩ := List.mem_iff_getElem?.mp hl
    have hj1 : j < L.ls.length := (List.getElem?_eq_some_iff.mp hj).1
    obtain ⟨m, d, q1, q2, q3⟩ := R.pick (j := j) (by omega)
    rw [hj] at q1
    cases q1
    simp only [calFs] at q3
    have h4 : 4 < s.length := by omega
    by_cases e1 : d.word = "tried"
    · by_cases e2 : d.place = g <;> simp [List.getElem?_set, h4, s1, q3, e1, e2, busyX]
    · simp [List.getElem?_set, h4, s1, q3, e1, busyX]
  have fin : ((L.ls.map A.loc).filterMap fun x => if busyX Pg h g x then some x else none).length = busy st g := by
    have go : ∀ (ls : List Nat) (cs : List Cal), ls.length = cs.length → (∀ (i l : Nat) (c : Cal), ls[i]? = some l → cs[i]? = some c → h[l]? = some (.ins "Call" (calFs c))) → ((ls.map A.loc).filterMap fun x => if busyX Pg h g x then some x else none).length = (cs.filter (busyC g)).length := by
      intro ls
      induction ls with
      | nil => intro cs e _; cases cs with | nil => rfl | cons _ _ => simp at e
      | cons l ls ih =>
        intro cs e a
        cases cs with
        | nil => simp at e
        | cons c cs =>
          have q := a 0 l c rfl rfl
          have r := ih cs (by simpa using e) fun i l c h1 h2 => a (i + 1) l c (by simpa using h1) (by simpa using h2)
          simp only [calFs] at q
          have eb : busyX Pg h g (.loc l) = busyC g c := by simp [busyX, busyC, q]
          rw [List.map_cons, List.filterMap_cons, List.filter_cons, eb]
          cases busyC g c
          · exact r
          · simp only [if_true, List.length_cons]
            rw [r]
    exact go L.ls st.calls R.len R.at_
  have k1 := key [some (.loc L.c), some (.str g), none, none, none, none] rfl rfl
  have k2 := key2 [some (.loc L.c), some (.str g), some (.lst (L.ls.map A.loc)), none, none, none] rfl rfl
  have uk := unlk_set R.ok
  generalize ((L.ls.map A.loc).filterMap fun x => if busyX Pg h g x then some x else none) = BL at k2 fin
  generalize L.ls.map A.loc = AL at k1 k2
  simp only [f_Caller_busy]
  simp only [runFn_eq, List.length_cons, List.length_nil, startA_eq, List.map_cons, List.map_nil, List.cons_append, List.nil_append, List.replicate]
  simp [R.oc, R.ok, numD_len, lkOk, k1, newL, MI.R.un, uk, k2, fin]
def numA (i : Nat) : A := .int ((i : Int) + 1)
theorem s_due [PCaller Pg] (n : Nat) (R : Rep h L st) (hn : st.calls.length ≤ 30) (G : RoadsOk st.roads) (hg : ∀ c ∈ st.calls, (getL c.goal st.roads).isSome = true) :
    ∃ h', callF Pg (n + 5) "Caller.due" [.loc L.c] h = .ok (.loc h.length) h' ∧ h'[h.length]? = some (.lst ((dueL st).map numA)) ∧ Fr No h h' := by
  rw [c_Caller_due]
  have nm := s_numbers (Pg := Pg) (n + 3) (R.fr (Fr.app No h [.lst []]) fun _ _ => id) (by omega)
  obtain ⟨s', h', e1, I⟩ := for_seq (xs := nums st.calls.length) (bd := forB Pg (callF Pg (n + 4)) (.nm 2) (bodyS (nthS 1 f_Caller_due.body))) (s := [some (.loc L.c), some (.loc h.length), none, none]) (h := h ++ [.lst []])
    (fun j s h' => s.length = 4 ∧ s[0]? = some (some (.loc L.c)) ∧ s[1]? = some (some (.loc h.length)) ∧ Fr No h h' ∧ h'[h.length]? = some (.lst (((List.range j).filter (dueAt st)).map numA))) ⟨rfl, rfl, rfl, Fr.app _ _ _, by simp⟩ (fun j x s h1 hx I => by
      obtain ⟨sl, s0, s1, f, v⟩ := I
      obtain ⟨hj, rfl⟩ := nums_at hx
      have R1 : Rep h1 L st := R.fr f fun _ _ => id
      obtain ⟨l, d, q1, q2, q3⟩ := R1.pick hj
      have g0 : getK (.inl ((j : Int) + 1) : Key) (numD 1 L.ls) = some (.loc l) := by rw [getK_1, q1]; rfl
      have fi := s_is_first (Pg := Pg) (n + 3) R1 hn q2
      have eg : dueAt st j = dueB st j d := by simp [dueAt, q2]
      have er : (List.range (j + 1)).filter (dueAt st) = (List.range j).filter (dueAt st) ++ (if dueB st j d then [j] else []) := by
        rw [List.range_succ, List.filter_append, ← eg]
        cases ed : dueAt st j <;> simp [List.filter_cons, ed]
      have hv : h.length < h1.length := lt_of_get v
      have la : (((List.range j).filter (dueAt st)).map numA).length ≤ 100000 := by
        have := List.length_filter_le (dueAt st) (List.range j)
        simp at this ⊢
        omega
      rw [er, List.map_append]
      generalize ((List.range j).filter (dueAt st)).map numA = FL at v la
      simp only [calFs] at q3
      have h2 : 2 < s.length := by omega
      have h3 : 3 < s.length := by omega
      by_cases w1 : (decide (d.word = "waits") && decide (d.time ≤ st.clock) && isFirst st j d.key) = true
      · obtain ⟨gl, en⟩ := s_end_of (Pg := Pg) n R1 G (hg d (List.mem_of_getElem? q2))
        have R2 : Rep (h1 ++ [.lst gl]) L st := R1.fr (Fr.app No h1 _) fun _ _ => id
        have bz := s_busy (Pg := Pg) (n + 3) R2 hn (endOf st d.goal)
        have v2 : (h1 ++ [.lst gl])[h.length]? = some (.lst FL) := get_app v
        have gc2 := R2.oc
        simp only [Bool.and_eq_true, decide_eq_true_eq] at w1
        obtain ⟨⟨w1, w2⟩, w3⟩ := w1
        rw [w3] at fi
        by_cases w4 : (busy st (endOf st d.goal) : Int) < st.ru.r5
        · have db : dueB st j d = true := by simp [dueB, w1, w2, w3, w4]
          refine ⟨(s.set 2 (some (.int ((j : Int) + 1)))).set 3 (some (.loc l)), (h1 ++ [AO.lst gl]).set h.length (.lst (FL ++ [numA j])), .inl ?_, by simp [sl], by simpa [List.getElem?_set] using s0, by simpa [List.getElem?_set] using s1, ⟨by have := f.1; simp; omega, fun m hm hno => ?_⟩, ?_⟩
          · simp only [forB_eq, evG_nm, toF_ok, nthS, dropS, tlS, hdS, bodyS, f_Caller_due]
            simp [List.getElem?_set, h2, h3, s0, s1, R1.oc, R1.ok, g0, q3, w1, w2, fi, en, bz, gc2, w4, v2, la, numA]
          · rw [List.getElem?_set_ne (by omega)]
            exact (f.trans (Fr.app No h1 [AO.lst gl])).2 m hm hno
          · rw [List.getElem?_set_self (by simp; omega), db]
            rfl
        · have db : dueB st j d = false := by simp [dueB, w1, w2, w3, w4]
          refine ⟨(s.set 2 (some (.int ((j : Int) + 1)))).set 3 (some (.loc l)), h1 ++ [AO.lst gl], .inl ?_, by simp [sl], by simpa [List.getElem?_set] using s0, by simpa [List.getElem?_set] using s1, f.trans (Fr.app No h1 [AO.lst gl]), ?_⟩
          · simp only [forB_eq, evG_nm, toF_ok, nthS, dropS, tlS, hdS, bodyS, f_Caller_due]
            simp [List.getElem?_set, h2, h3, s0, s1, R1.oc, R1.ok, g0, q3, w1, w2, fi, en, bz, gc2, w4, v2, la, numA]
          · rw [v2, db]
            simp
      · have db : dueB st j d = false := by
          simp only [dueB]
          simp at w1 ⊢
          intro a b c
          exact absurd c (by simp [w1 a b])
        refine ⟨(s.set 2 (some (.int ((j : Int) + 1)))).set 3 (some (.loc l)), h1, .inl ?_, by simp [sl], by simpa [List.getElem?_set] using s0, by simpa [List.getElem?_set] using s1, f, ?_⟩
        · simp only [forB_eq, evG_nm, toF_ok, nthS, dropS, tlS, hdS, bodyS, f_Caller_due]
          by_cases a1 : d.word = "waits"
          · by_cases a2 : d.time ≤ st.clock
            · have a3 : isFirst st j d.key = false := by simpa [a1, a2] using w1
              rw [a3] at fi
              simp [List.getElem?_set, h2, h3, s0, s1, R1.oc, R1.ok, g0, q3, a1, a2, fi]
            · simp [List.getElem?_set, h2, h3, s0, s1, R1.oc, R1.ok, g0, q3, a1, a2]
          · simp [List.getElem?_set, h2, h3, s0, s1, R1.oc, R1.ok, g0, q3, a1]
        · rw [v, db]
          simp)
  obtain ⟨_, _, i1, i2, i3⟩ := I
  rw [nums_len] at i3
  refine ⟨h', ?_, i3, i2⟩
  have oc' := get_app (g := [AO.lst []]) R.oc
  have ei : evI Pg (callF Pg (n + 4)) (.seq (.meth (.var 0) "numbers" .nil)) [some (.loc L.c), some (.loc h.length), none, none] (h ++ [.lst []]) = .ok ⟨seqN (nums st.calls.length), (nums st.calls.length).length + 1, none⟩ (h ++ [.lst []]) := by
    simp [oc', nm]
  have b1 : evS Pg (callF Pg (n + 4)) (nthS 1 f_Caller_due.body) [some (.loc L.c), some (.loc h.length), none, none] (h ++ [.lst []]) = .nx s' h' := fo_at (t := .nm 2) (b := bodyS (nthS 1 f_Caller_due.body)) ei e1
  have b0 : evS Pg (callF Pg (n + 4)) (nthS 0 f_Caller_due.body) [some (.loc L.c), none, none, none] h = .nx [some (.loc L.c), some (.loc h.length), none, none] (h ++ [.lst []]) := by
    simp [nthS, dropS, tlS, hdS, f_Caller_due, newL]
  have b2 : evSs Pg (callF Pg (n + 4)) (dropS 2 f_Caller_due.body) s' h' = .rt (.loc h.length) h' := by
    simp [dropS, tlS, f_Caller_due, i1]
  have fin := (step_at (ss := f_Caller_due.body) (n := 0) rfl b0).trans ((step_at rfl b1).trans b2)
  exact run_at (fn := f_Caller_due) (r := .rt (.loc h.length) h') rfl fin
end
end MC

namespace MC
open PySem L2 MI MT
def beginC (st : CS) (c : Cal) : Cal := { c with word := "tried", time := st.clock, many := c.many + 1, place := endOf st c.goal }
def beginS (st : CS) (i : Nat) (c : Cal) : CS := (st.put i (beginC st c)).say ((i : Int) + 1) "tried"
def markOf (i : Nat) : Str := Str.ofString "m" ++ Str.ofString (toString ((i : Int) + 1))
def outA (st : CS) (i : Nat) (c : Cal) : A := .tup [numA i, .str (markOf i), .str (endOf st c.goal), .str c.key, .str c.text]
section
variable {Pg : Prog} {h : AH} {L : Lay} {st : CS}
theorem set_id {α : Type} {xs : List α} {i : Nat} {a b : α} : (xs.set i a).set i b = xs.set i b := List.set_set ..
theorem s_begin [PCaller Pg] (n : Nat) (R : Rep h L st) (G : RoadsOk st.roads) {i : Nat} {c : Cal} (hc : st.calls[i]? = some c) (hg : (getL c.goal st.roads).isSome = true) (hi : i ≤ 1000) (hm : (markOf i).length ≤ 1000) (hr : st.rows.length ≤ 90000) :
    ∃ h', callF Pg (n + 5) "Caller.begin" [.loc L.c, numA i] h = .ok (outA st i c) h' ∧ Rep h' L (beginS st i c) ∧ Fr L.F h h' := by
  rw [c_Caller_begin]
  obtain ⟨l, e1, e2, m, nc, nr, nk, nw⟩ := R.call hc
  have hic : i < st.calls.length := (List.getElem?_eq_some_iff.mp hc).1
  have fl : L.F l := .inr (.inr (.inr (.inr m)))
  have g0 : getK (.inl ((i : Int) + 1) : Key) (numD 1 L.ls) = some (.loc l) := by rw [getK_1, e1]; rfl
  -- word, time
  have R1 := R.setCall { c with word := "tried", time := st.clock } e1
  have c1 : ({ st with calls := st.calls.set i { c with word := "tried", time := st.clock } } : CS).calls[i]? = some { c with word := "tried", time := st.clock } := List.getElem?_set_self hic
  obtain ⟨gl, en⟩ := s_end_of (Pg := Pg) n R1 G (z := c.goal) hg
  have en2 : endOf ({ st with calls := st.calls.set i { c with word := "tried", time := st.clock } } : CS) c.goal = endOf st c.goal := rfl
  rw [en2] at en
  have R2 : Rep (h.set l (.ins "Call" (calFs { c with word := "tried", time := st.clock })) ++ [.lst gl]) L { st with calls := st.calls.set i { c with word := "tried", time := st.clock } } := R1.fr (Fr.app No _ _) fun _ _ => id
  have R3 := R2.setCall (beginC st c) e1
  have sy := s_say (Pg := Pg) (n + 3) R3 ((i : Int) + 1) "tried" hr
  have R4 := R3.say ((i : Int) + 1) "tried"
  have es : ({ st with calls := (st.calls.set i { c with word := "tried", time := st.clock }).set i (beginC st c) } : CS).say ((i : Int) + 1) "tried" = beginS st i c := by
    rw [set_id]
    rfl
  refine ⟨_, ?_, es ▸ R4, ((Fr.set h _ fl).trans (Fr.app _ _ _)).trans ((Fr.set _ _ fl).trans (Fr.set _ _ (.inr (.inr (.inr (.inl rfl)))))), ⟩
  have hl := lt_of_get e2
  have gc : ∀ x, (h.set l x)[L.c]? = _ := fun x => (List.getElem?_set_ne nc.symm).trans R.oc
  have gl1 : ∀ x, (h.set l x)[l]? = some x := fun x => List.getElem?_set_self hl
  have gl2 : ∀ x y, (h.set l x ++ [y])[l]? = some x := fun x y => get_app (gl1 x)
  have gc2 : ∀ x y, (h.set l x ++ [y])[L.c]? = _ := fun x y => get_app (gc x)
  have ll2 : ∀ x y, l < (h.set l x ++ [y]).length := fun x y => by simp; omega
  have gl3 : ∀ x y z, ((h.set l x ++ [y]).set l z)[l]? = some z := fun x y z => List.getElem?_set_self (ll2 x y)
  have gc3 : ∀ x y z, ((h.set l x ++ [y]).set l z)[L.c]? = _ := fun x y z => (List.getElem?_set_ne nc.symm).trans (gc2 x y)
  have gl4 : ∀ x y z w, (((h.set l x ++ [y]).set l z).set L.w w)[l]? = some z := fun x y z w => (List.getElem?_set_ne nw).trans (gl3 x y z)
  have big : (i : Int).natAbs + 1 < 2 ^ 1000 := Nat.lt_of_lt_of_le (show (i : Int).natAbs + 1 < 2 ^ 20 by omega) (Nat.pow_le_pow_right (by decide) (by decide))
  have big2 : ((i : Int) + 1).natAbs < 2 ^ 1000 := by omega
  have lm : (Str.ofString "m").length + (Str.ofString (toString ((i : Int) + 1))).length ≤ 100000 := by
    have : (markOf i).length = (Str.ofString "m").length + (Str.ofString (toString ((i : Int) + 1))).length := by
      show ((Str.ofString "m").cps ++ (Str.ofString (toString ((i : Int) + 1))).cps).size = _
      simp [Str.length]
    omega
  have bs : ∀ h : AH, biOp h .str [.int ((i : Int) + 1)] = some (.str (Str.ofString (toString ((i : Int) + 1)))) := fun h => by
    simp only [biOp, decide_eq_true big2, if_true]
  simp only [calFs, beginC] at e2 en sy ⊢
  generalize hms : Str.ofString (toString ((i : Int) + 1)) = ms at lm bs
  have hmk : markOf i = Str.ofString "m" ++ ms := by rw [← hms]; rfl
  simp only [f_Caller_begin, numA, outA, hmk]
  simp [R.oc, R.ok, g0, e2, gc, gl1, en, gl2, gc2, gl3, gc3, sy, gl4, bs, lm]
theorem mark_len : ∀ i, i < 31 → (markOf i).length ≤ 1000 := by decide +kernel
def tryS (st : CS) : A × CS := match dueL st with
  | [] => (.non, st)
  | i :: _ => match st.calls[i]? with
    | some c => (outA st i c, beginS st i c)
    | none => (.non, st)
theorem dueL_mem {st : CS} {i : Nat} (hi : i ∈ dueL st) : ∃ c, st.calls[i]? = some c ∧ dueB st i c = true := by
  unfold dueL at hi
  obtain ⟨h1, h2⟩ := List.mem_filter.mp hi
  unfold dueAt at h2
  split at h2
  · rename_i c e
    exact ⟨c, e, h2⟩
  · cases h2
theorem s_attempt [PCaller Pg] (n : Nat) (R : Rep h L st) (hn : st.calls.length ≤ 30) (G : RoadsOk st.roads) (hg : ∀ c ∈ st.calls, (getL c.goal st.roads).isSome = true) (hr : st.rows.length ≤ 90000) :
    ∃ h', callF Pg (n + 6) "Caller.attempt" [.loc L.c] h = .ok (tryS st).1 h' ∧ Rep h' L (tryS st).2 ∧ Fr L.F h h' := by
  rw [c_Caller_attempt]
  obtain ⟨h1, e1, v, f1⟩ := s_due (Pg := Pg) n R hn G hg
  have R1 : Rep h1 L st := R.fr f1 fun _ _ => id
  have en := eq_nil v
  unfold tryS
  cases ed : dueL st with
  | nil =>
    rw [ed] at v en
    refine ⟨h1, ?_, R1, f1.no⟩
    simp at en
    simp [f_Caller_attempt, R.oc, e1, en]
  | cons i r =>
    obtain ⟨c, hc, _⟩ := dueL_mem (st := st) (i := i) (by rw [ed]; exact List.mem_cons_self)
    have hi : i < st.calls.length := (List.getElem?_eq_some_iff.mp hc).1
    obtain ⟨h2, e2, R2, f2⟩ := s_begin (Pg := Pg) n R1 G hc (hg c (List.mem_of_getElem? hc)) (by omega) (mark_len i (by omega)) hr
    simp only [hc]
    refine ⟨h2, ?_, R2, f1.no.trans f2⟩
    rw [ed] at v en
    simp at en
    have at0 : L2.atI (((i :: r).map numA)) 0 = some (numA i) := L2.atI_nat (j := 0) (by simp)
    generalize (i :: r).map numA = FL at v at0
    generalize outA st i c = o at e2
    simp [f_Caller_attempt, R.oc, e1, en, v, at0, R1.oc, e2]
end
end MC

namespace MC
open PySem L2 MI MT
def newC (st : CS) (key goal text : Str) : Cal := ⟨key, goal, text, "waits", 0, st.clock, 0, goal⟩
def sendS (st : CS) (key goal text : Str) : CS := ({ st with calls := st.calls ++ [newC st key goal text] }).say ((st.calls.length : Int) + 1) "sent"
def Lay.more (L : Lay) (l : Nat) : Lay := { L with ls := L.ls ++ [l] }
section
variable {Pg : Prog} {h : AH} {L : Lay} {st : CS}
theorem s_Call [PCaller Pg] (n : Nat) (h : AH) (k g t tm : A) : callF Pg (n + 1) "Call.__init__" [.loc h.length, k, g, t, tm] (h ++ [.ins "Call" []]) = .ok .non (h ++ [.ins "Call" (callFs k g t (.str "waits") (.int 0) tm (.int 0) g)]) := by
  rw [c_Call___init__]
  simp [f_Call___init__]
theorem Rep.newCall (R : Rep h L st) (c : Cal) : Rep ((h ++ [AO.ins "Call" (calFs c)]).set L.k (.dic false (numD 1 (L.ls ++ [h.length])))) (L.more h.length) { st with calls := st.calls ++ [c] } := by
  have lt := R.lt
  have ne : ∀ x, L.F x → x ≠ h.length := fun x hx => Nat.ne_of_lt (lt x hx)
  have ap : ∀ {l : Nat} {x : AO}, h[l]? = some x → L.k ≠ l → ((h ++ [AO.ins "Call" (calFs c)]).set L.k (.dic false (numD 1 (L.ls ++ [h.length]))))[l]? = some x := fun e hn => by
    rw [List.getElem?_set_ne hn]
    exact get_app e
  have hk := lt_of_get R.ok
  refine ⟨ap R.oc R.ck.symm, ap R.or_ R.rk.symm, ?_, ap R.ow R.kw, ?_, ?_, R.cr, R.ck, R.cw, R.rk, R.rw_, R.kw, ?_, ?_, ?_, ?_, ?_⟩
  · show ((h ++ [AO.ins "Call" (calFs c)]).set L.k _)[L.k]? = _
    rw [List.getElem?_set_self (by simp; omega)]
    rfl
  · show (L.ls ++ [h.length]).length = (st.calls ++ [c]).length
    simp [R.len]
  · intro i l d h1 h2
    have h1 : (L.ls ++ [h.length])[i]? = some l := h1
    have h2 : (st.calls ++ [c])[i]? = some d := h2
    by_cases hi : i < L.ls.length
    · rw [List.getElem?_append_left hi] at h1
      rw [List.getElem?_append_left (by rw [← R.len]; exact hi)] at h2
      exact ap (R.at_ i l d h1 h2) (fun z => R.lk (by rw [z]; exact List.mem_of_getElem? h1))
    · have hb : i < (L.ls ++ [h.length]).length := (List.getElem?_eq_some_iff.mp h1).1
      have ei : i = L.ls.length := by simp at hb; omega
      subst ei
      rw [List.getElem?_append_right (Nat.le_refl _)] at h1
      rw [R.len, List.getElem?_append_right (Nat.le_refl _)] at h2
      simp at h1 h2
      subst h1 h2
      rw [List.getElem?_set_ne (Nat.ne_of_lt hk)]
      simp
  · intro hm
    rcases List.mem_append.mp (show L.c ∈ L.ls ++ [h.length] from hm) with z | z
    · exact R.lc z
    · exact ne _ (.inl rfl) (List.mem_singleton.mp z)
  · intro hm
    rcases List.mem_append.mp (show L.r ∈ L.ls ++ [h.length] from hm) with z | z
    · exact R.lr z
    · exact ne _ (.inr (.inl rfl)) (List.mem_singleton.mp z)
  · intro hm
    rcases List.mem_append.mp (show L.k ∈ L.ls ++ [h.length] from hm) with z | z
    · exact R.lk z
    · exact ne _ (.inr (.inr (.inl rfl))) (List.mem_singleton.mp z)
  · intro hm
    rcases List.mem_append.mp (show L.w ∈ L.ls ++ [h.length] from hm) with z | z
    · exact R.lw z
    · exact ne _ (.inr (.inr (.inr (.inl rfl)))) (List.mem_singleton.mp z)
  · show (L.ls ++ [h.length]).Nodup
    rw [List.nodup_append]
    refine ⟨R.nd, by simp, fun a ha b hb => ?_⟩
    rw [List.mem_singleton.mp hb]
    exact ne a (.inr (.inr (.inr (.inr ha))))
theorem s_send_bad [PCaller Pg] (n : Nat) (R : Rep h L st) (key goal text : A) (o1 : okA key = true) (o2 : okA goal = true) (o3 : okA text = true) (c : Str)
    (hc : (nameA key = false ∧ c = "BadName") ∨ (nameA key = true ∧ addrA st.roads goal = false ∧ c = "BadName") ∨ (nameA key = true ∧ addrA st.roads goal = true ∧ textA text = false ∧ c = "BadText") ∨
      (nameA key = true ∧ addrA st.roads goal = true ∧ textA text = true ∧ 30 ≤ st.calls.length ∧ c = "Full")) :
    callF Pg (n + 4) "Caller.send" [.loc L.c, key, goal, text] h = .exc c h := by
  rw [c_Caller_send]
  have b1 := s_need_name (Pg := Pg) (n + 1) key h o1
  have b2 := s_need_address (Pg := Pg) n R goal o2
  have b3 := s_need_text (Pg := Pg) (n + 1) text h o3
  rcases hc with ⟨q1, rfl⟩ | ⟨q1, q2, rfl⟩ | ⟨q1, q2, q3, rfl⟩ | ⟨q1, q2, q3, q4, rfl⟩
  · rw [q1] at b1
    simp at b1
    simp [f_Caller_send, b1]
  · rw [q1] at b1
    rw [q2] at b2
    simp at b1 b2
    simp [f_Caller_send, b1, b2, R.oc]
  · rw [q1] at b1
    rw [q2] at b2
    rw [q3] at b3
    simp at b1 b2 b3
    simp [f_Caller_send, b1, b2, b3, R.oc]
  · rw [q1] at b1
    rw [q2] at b2
    rw [q3] at b3
    simp at b1 b2 b3
    have q5 : (30 : Int) ≤ st.calls.length := by omega
    simp [f_Caller_send, b1, b2, b3, R.oc, R.ok, numD_len, R.len, q5]
theorem s_send [PCaller Pg] (n : Nat) (R : Rep h L st) (G : RoadsOk st.roads) {key goal text : Str} (o1 : isName key = true) (o2 : (getL goal st.roads).isSome = true) (o3 : isText text = true) (hn : st.calls.length < 30) (hr : st.rows.length ≤ 90000) :
    ∃ h', callF Pg (n + 4) "Caller.send" [.loc L.c, .str key, .str goal, .str text] h = .ok (.int ((st.calls.length : Int) + 1)) h' ∧ Rep h' (L.more h.length) (sendS st key goal text) ∧ Fr L.F h h' ∧ h.length < h'.length := by
  rw [c_Caller_send]
  have b1 := s_need_name (Pg := Pg) (n + 1) (.str key) h (ok_name o1)
  have b2 := s_need_ok (Pg := Pg) n R G o2
  have b3 := s_need_text (Pg := Pg) (n + 1) (.str text) h (ok_text o3)
  have k1 : nameA (.str key) = true := o1
  have k3 : textA (.str text) = true := o3
  rw [k1] at b1
  rw [k3] at b3
  simp at b1 b3
  have R1 := R.newCall (newC st key goal text)
  have sy := s_say (Pg := Pg) (n + 2) R1 ((st.calls.length : Int) + 1) "sent" hr
  have R2 := R1.say ((st.calls.length : Int) + 1) "sent"
  have fk : L.F L.k := .inr (.inr (.inl rfl))
  have fw : L.F L.w := .inr (.inr (.inr (.inl rfl)))
  refine ⟨_, ?_, R2, ((Fr.app L.F h [.ins "Call" (calFs (newC st key goal text))]).trans (Fr.set _ _ fk)).trans (Fr.set _ _ fw), by simp⟩
  have mk := s_Call (Pg := Pg) (n + 2) h (.str key) (.str goal) (.str text) (.int st.clock)
  have gc := get_app (g := [AO.ins "Call" (callFs (.str key) (.str goal) (.str text) (.str "waits") (.int 0) (.int st.clock) (.int 0) (.str goal))]) R.oc
  have gk := get_app (g := [AO.ins "Call" (callFs (.str key) (.str goal) (.str text) (.str "waits") (.int 0) (.int st.clock) (.int 0) (.str goal))]) R.ok
  have gc2 : ∀ x, ((h ++ [AO.ins "Call" (callFs (.str key) (.str goal) (.str text) (.str "waits") (.int 0) (.int st.clock) (.int 0) (.str goal))]).set L.k x)[L.c]? = _ := fun x => (List.getElem?_set_ne R.ck.symm).trans gc
  have pk := putKA_num L.ls h.length
  rw [R.len] at pk
  have ln : st.calls.length ≤ 100000 := by omega
  have q5 : ¬ (30 : Int) ≤ st.calls.length := by omega
  have ea : (L.more h.length).w = L.w ∧ (L.more h.length).c = L.c := ⟨rfl, rfl⟩
  rw [ea.1, ea.2] at sy
  simp only [calFs, newC] at sy ⊢
  simp only [f_Caller_send]
  simp [b1, b2, b3, R.oc, R.ok, numD_len, R.len, q5, mk, gc, gk, pk, gc2, ln, sy]
  rfl
end
end MC

namespace MC
open PySem L2 MI MT
section
variable {Pg : Prog} {h : AH} {L : Lay} {st : CS}
def goOnS (st : CS) (i : Nat) (c : Cal) : CS := (st.put i { c with word := "waits", fails := 0, time := st.clock }).say ((i : Int) + 1) "sent"
def dropS' (st : CS) (i : Nat) (c : Cal) : CS := (st.put i { c with word := "gone" }).say ((i : Int) + 1) "gone"
def changeS (st : CS) (i : Nat) (c : Cal) (goal : Str) : CS := st.put i { c with goal := goal }
theorem s_go_on_bad [PGoOn Pg] (n : Nat) (R : Rep h L st) (a : A) (ha : notLoc a = true) (hb : isCnt a 1 st.calls.length = false) : callF Pg (n + 3) "Caller.go_on" [.loc L.c, a] h = .exc "BadCall" h := by
  rw [c_Caller_go_on]
  simp [f_Caller_go_on, R.oc, s_call_bad (Pg := Pg) n R a ha hb]
theorem s_go_on [PGoOn Pg] (n : Nat) (R : Rep h L st) {i : Nat} {c : Cal} (hc : st.calls[i]? = some c) (hr : st.rows.length ≤ 90000) :
    if c.word = "put by" then ∃ h', callF Pg (n + 3) "Caller.go_on" [.loc L.c, numA i] h = .ok .non h' ∧ Rep h' L (goOnS st i c) ∧ Fr L.F h h'
    else callF Pg (n + 3) "Caller.go_on" [.loc L.c, numA i] h = .exc "BadCall" h := by
  obtain ⟨l, e1, e2, m, nc, nr, nk, nw⟩ := R.call hc
  have cl := s_call (Pg := Pg) n R e1
  have hl := lt_of_get e2
  have fl : L.F l := .inr (.inr (.inr (.inr m)))
  rw [c_Caller_go_on]
  have gc : ∀ x, (h.set l x)[L.c]? = _ := fun x => (List.getElem?_set_ne nc.symm).trans R.oc
  have gl1 : ∀ x, (h.set l x)[l]? = some x := fun x => List.getElem?_set_self hl
  split
  · rename_i w
    have R1 := R.setCall { c with word := "waits", fails := 0, time := st.clock } e1
    have sy := s_say (Pg := Pg) (n + 1) R1 ((i : Int) + 1) "sent" hr
    refine ⟨_, ?_, R1.say _ _, (Fr.set h _ fl).trans (Fr.set _ _ (.inr (.inr (.inr (.inl rfl))))) ⟩
    simp only [calFs] at e2 sy ⊢
    simp only [f_Caller_go_on, numA]
    simp [R.oc, cl, e2, w, gc, gl1, sy]
  · rename_i w
    simp only [calFs] at e2
    simp only [f_Caller_go_on, numA]
    simp [R.oc, cl, e2, w]
theorem s_drop_bad [PDrop Pg] (n : Nat) (R : Rep h L st) (a : A) (ha : notLoc a = true) (hb : isCnt a 1 st.calls.length = false) : callF Pg (n + 3) "Caller.drop" [.loc L.c, a] h = .exc "BadCall" h := by
  rw [c_Caller_drop]
  simp [f_Caller_drop, R.oc, s_call_bad (Pg := Pg) n R a ha hb]
def isRest (w : Str) : Bool := decide (w = "waits") || decide (w = "put by")
theorem s_drop [PDrop Pg] (n : Nat) (R : Rep h L st) {i : Nat} {c : Cal} (hc : st.calls[i]? = some c) (hr : st.rows.length ≤ 90000) :
    if isRest c.word then ∃ h', callF Pg (n + 3) "Caller.drop" [.loc L.c, numA i] h = .ok .non h' ∧ Rep h' L (dropS' st i c) ∧ Fr L.F h h'
    else callF Pg (n + 3) "Caller.drop" [.loc L.c, numA i] h = .exc "BadCall" h := by
  obtain ⟨l, e1, e2, m, nc, nr, nk, nw⟩ := R.call hc
  have cl := s_call (Pg := Pg) n R e1
  have hl := lt_of_get e2
  have fl : L.F l := .inr (.inr (.inr (.inr m)))
  rw [c_Caller_drop]
  have gc : ∀ x, (h.set l x)[L.c]? = _ := fun x => (List.getElem?_set_ne nc.symm).trans R.oc
  have il := inLs2 c.word "waits" "put by"
  have il2 : (decide (c.word = "waits") || decide (c.word = "put by")) = isRest c.word := rfl
  rw [il2] at il
  split
  · rename_i w
    rw [w] at il
    have R1 := R.setCall { c with word := "gone" } e1
    have sy := s_say (Pg := Pg) (n + 1) R1 ((i : Int) + 1) "gone" hr
    refine ⟨_, ?_, R1.say _ _, (Fr.set h _ fl).trans (Fr.set _ _ (.inr (.inr (.inr (.inl rfl))))) ⟩
    simp only [calFs] at e2 sy ⊢
    simp only [f_Caller_drop, numA]
    simp [R.oc, cl, e2, il, gc, sy]
  · rename_i w
    have w : isRest c.word = false := by simpa using w
    rw [w] at il
    simp only [calFs] at e2
    simp only [f_Caller_drop, numA]
    simp [R.oc, cl, e2, il]
theorem s_change_bad [PChange Pg] (n : Nat) (R : Rep h L st) (a g : A) (ha : notLoc a = true) (hb : isCnt a 1 st.calls.length = false) : callF Pg (n + 4) "Caller.change" [.loc L.c, a, g] h = .exc "BadCall" h := by
  rw [c_Caller_change]
  simp [f_Caller_change, R.oc, s_call_bad (Pg := Pg) (n + 1) R a ha hb]
theorem s_change_addr [PChange Pg] (n : Nat) (R : Rep h L st) {i : Nat} {c : Cal} (hc : st.calls[i]? = some c) (g : A) (og : okA g = true) (hg : addrA st.roads g = false) : callF Pg (n + 4) "Caller.change" [.loc L.c, numA i, g] h = .exc "BadName" h := by
  obtain ⟨l, e1, e2, m, nc, nr, nk, nw⟩ := R.call hc
  have cl := s_call (Pg := Pg) (n + 1) R e1
  have b := s_need_address (Pg := Pg) n R g og
  rw [hg] at b
  simp at b
  rw [c_Caller_change]
  simp only [f_Caller_change, numA]
  simp [R.oc, cl, b]
theorem s_change [PChange Pg] (n : Nat) (R : Rep h L st) (G : RoadsOk st.roads) {i : Nat} {c : Cal} (hc : st.calls[i]? = some c) {goal : Str} (hg : (getL goal st.roads).isSome = true) :
    if isRest c.word then ∃ h', callF Pg (n + 4) "Caller.change" [.loc L.c, numA i, .str goal] h = .ok .non h' ∧ Rep h' L (changeS st i c goal) ∧ Fr L.F h h'
    else callF Pg (n + 4) "Caller.change" [.loc L.c, numA i, .str goal] h = .exc "BadCall" h := by
  obtain ⟨l, e1, e2, m, nc, nr, nk, nw⟩ := R.call hc
  have cl := s_call (Pg := Pg) (n + 1) R e1
  have b := s_need_ok (Pg := Pg) n R G hg
  have fl : L.F l := .inr (.inr (.inr (.inr m)))
  rw [c_Caller_change]
  have il := inLs2 c.word "waits" "put by"
  have il2 : (decide (c.word = "waits") || decide (c.word = "put by")) = isRest c.word := rfl
  rw [il2] at il
  split
  · rename_i w
    rw [w] at il
    have R1 := R.setCall { c with goal := goal } e1
    refine ⟨_, ?_, R1, Fr.set h _ fl⟩
    simp only [calFs] at e2 ⊢
    simp only [f_Caller_change, numA]
    simp [R.oc, cl, e2, il, b]
  · rename_i w
    have w : isRest c.word = false := by simpa using w
    rw [w] at il
    simp only [calFs] at e2
    simp only [f_Caller_change, numA]
    simp [R.oc, cl, e2, il, b]
def isWord (w : Str) : Bool := decide (w = "good") || decide (w = "later") || decide (w = "never")
def wordA : A → Bool
  | .str w => isWord w
  | _ => false
theorem inLs3 (w a b c : Str) : inLs (.str w) [.str a, .str b, .str c] = some (decide (w = a) || decide (w = b) || decide (w = c)) := by
  have := inLs_strs w [a, b, c]
  simp only [List.map_cons, List.map_nil] at this
  rw [this]
  congr 1
  rw [Bool.eq_iff_iff]
  simp [or_assoc]
def answerS (st : CS) (i : Nat) (c : Cal) (w : Str) : CS := if w = "later" then failS st i c else (st.put i { c with word := if w = "good" then "done" else "put by" }).say ((i : Int) + 1) (if w = "good" then "done" else "put by")
theorem s_answer_bad [PCaller Pg] (n : Nat) (R : Rep h L st) (a w : A) (ha : notLoc a = true) (hb : isCnt a 1 st.calls.length = false) : callF Pg (n + 3) "Caller.answer" [.loc L.c, a, w] h = .exc "BadCall" h := by
  obtain ⟨gn, e⟩ := c_Caller_answer (Pg := Pg) (n + 2) [.loc L.c, a, w] h
  rw [e]
  simp [f_Caller_answer, R.oc, s_call_bad (Pg := Pg) n R a ha hb]
theorem s_answer_no [PCaller Pg] (n : Nat) (R : Rep h L st) {i : Nat} {c : Cal} (hc : st.calls[i]? = some c) (w : A) (hw : notLoc w = true) (hb : wordA w = false ∨ c.word ≠ "tried") : callF Pg (n + 3) "Caller.answer" [.loc L.c, numA i, w] h = .exc "BadCall" h := by
  obtain ⟨l, e1, e2, m, nc, nr, nk, nw⟩ := R.call hc
  have cl := s_call (Pg := Pg) n R e1
  obtain ⟨gn, e⟩ := c_Caller_answer (Pg := Pg) (n + 2) [.loc L.c, numA i, w] h
  rw [e]
  simp only [f_Caller_answer, numA]
  simp only [calFs] at e2
  cases w with
  | loc _ => cases hw
  | str z =>
    have il := inLs3 z "good" "later" "never"
    have il2 : (decide (z = "good") || decide (z = "later") || decide (z = "never")) = isWord z := rfl
    rw [il2] at il
    cases ez : isWord z with
    | false =>
      rw [ez] at il
      simp [R.oc, cl, e2, il]
    | true =>
      rw [ez] at il
      have hn : ¬ c.word = "tried" := by
        rcases hb with hb | hb
        · have : isWord z = false := hb
          rw [ez] at this
          cases this
        · exact hb
      simp [R.oc, cl, e2, il, hn]
  | _ => simp [R.oc, cl]
theorem s_answer [PCaller Pg] (n : Nat) (R : Rep h L st) (rl : st.ru.ok) {i : Nat} {c : Cal} (hc : st.calls[i]? = some c) {w : Str} (hw : isWord w = true) (ht : c.word = "tried") (hf : 0 ≤ c.fails ∧ c.fails < st.ru.r3) (hr : st.rows.length ≤ 90000) :
    ∃ h', callF Pg (n + 3) "Caller.answer" [.loc L.c, numA i, .str w] h = .ok .non h' ∧ Rep h' L (answerS st i c w) ∧ Fr L.F h h' := by
  obtain ⟨l, e1, e2, m, nc, nr, nk, nw⟩ := R.call hc
  have cl := s_call (Pg := Pg) n R e1
  have hl := lt_of_get e2
  have fl : L.F l := .inr (.inr (.inr (.inr m)))
  obtain ⟨gn, e⟩ := c_Caller_answer (Pg := Pg) (n + 2) [.loc L.c, numA i, .str w] h
  rw [e]
  simp only [f_Caller_answer, numA]
  have il := inLs3 w "good" "later" "never"
  have il2 : (decide (w = "good") || decide (w = "later") || decide (w = "never")) = isWord w := rfl
  rw [il2, hw] at il
  by_cases wl : w = "later"
  · obtain ⟨h', f1, f2, f3, _⟩ := s_fail (Pg := Pg) n R rl hc hf hr
    refine ⟨h', ?_, by rw [answerS, if_pos wl]; exact f2, f3⟩
    simp only [calFs] at e2
    subst wl
    simp [R.oc, cl, e2, il, ht, f1]
  · have R1 := R.setCall { c with word := if w = "good" then "done" else "put by" } e1
    have sy := s_say (Pg := Pg) (n + 1) R1 ((i : Int) + 1) (if w = "good" then "done" else "put by") hr
    have gc : ∀ x, (h.set l x)[L.c]? = _ := fun x => (List.getElem?_set_ne nc.symm).trans R.oc
    have gl1 : ∀ x, (h.set l x)[l]? = some x := fun x => List.getElem?_set_self hl
    refine ⟨_, ?_, by rw [answerS, if_neg wl]; exact R1.say _ _, (Fr.set h _ fl).trans (Fr.set _ _ (.inr (.inr (.inr (.inl rfl)))))⟩
    simp only [calFs] at e2 sy ⊢
    by_cases wg : w = "good"
    · simp only [wg, if_true] at sy ⊢
      rw [wg] at il
      simp [R.oc, cl, e2, il, ht, gc, gl1, sy]
    · simp only [wg, if_false] at sy ⊢
      simp [R.oc, cl, e2, il, ht, wl, wg, gc, gl1, sy]
theorem s_now [PNow Pg] (n : Nat) (R : Rep h L st) : callF Pg (n + 1) "Caller.now" [.loc L.c] h = .ok (.int st.clock) h := by
  rw [c_Caller_now]
  simp [f_Caller_now, R.oc]
theorem s_log [PLog Pg] (n : Nat) (R : Rep h L st) : callF Pg (n + 1) "Caller.log" [.loc L.c] h = .ok (.lst (st.rows.map rowA)) h := by
  rw [c_Caller_log]
  have ow := R.ow
  generalize st.rows.map rowA = RL at ow
  have e : seqAt h (.loc L.w) = some RL := by
    show listAt h (.loc L.w) = _
    simp [ow]
  simp [f_Caller_log, R.oc, e]
theorem s_state [PState Pg] (n : Nat) (R : Rep h L st) {i : Nat} {c : Cal} (hc : st.calls[i]? = some c) : callF Pg (n + 3) "Caller.state" [.loc L.c, numA i] h = .ok (.str c.word) h := by
  obtain ⟨l, e1, e2, _⟩ := R.call hc
  have cl := s_call (Pg := Pg) n R e1
  rw [c_Caller_state]
  simp only [calFs] at e2
  simp only [f_Caller_state, numA]
  simp [R.oc, cl, e2]
theorem s_state_bad [PState Pg] (n : Nat) (R : Rep h L st) (a : A) (ha : notLoc a = true) (hb : isCnt a 1 st.calls.length = false) : callF Pg (n + 3) "Caller.state" [.loc L.c, a] h = .exc "BadCall" h := by
  rw [c_Caller_state]
  simp [f_Caller_state, R.oc, s_call_bad (Pg := Pg) n R a ha hb]
theorem s_tries [PTries Pg] (n : Nat) (R : Rep h L st) {i : Nat} {c : Cal} (hc : st.calls[i]? = some c) : callF Pg (n + 3) "Caller.tries" [.loc L.c, numA i] h = .ok (.int c.many) h := by
  obtain ⟨l, e1, e2, _⟩ := R.call hc
  have cl := s_call (Pg := Pg) n R e1
  rw [c_Caller_tries]
  simp only [calFs] at e2
  simp only [f_Caller_tries, numA]
  simp [R.oc, cl, e2]
theorem s_tries_bad [PTries Pg] (n : Nat) (R : Rep h L st) (a : A) (ha : notLoc a = true) (hb : isCnt a 1 st.calls.length = false) : callF Pg (n + 3) "Caller.tries" [.loc L.c, a] h = .exc "BadCall" h := by
  rw [c_Caller_tries]
  simp [f_Caller_tries, R.oc, s_call_bad (Pg := Pg) n R a ha hb]
def timeA (st : CS) (c : Cal) : A := if c.word = "waits" then .int c.time else if c.word = "tried" then .int (c.time + st.ru.r4) else .non
theorem s_time_of [PTimeOf Pg] (n : Nat) (R : Rep h L st) {i : Nat} {c : Cal} (hc : st.calls[i]? = some c) : callF Pg (n + 3) "Caller.time_of" [.loc L.c, numA i] h = .ok (timeA st c) h := by
  obtain ⟨l, e1, e2, _⟩ := R.call hc
  have cl := s_call (Pg := Pg) n R e1
  rw [c_Caller_time_of]
  simp only [calFs] at e2
  simp only [f_Caller_time_of, numA, timeA]
  by_cases w1 : c.word = "waits"
  · simp [R.oc, cl, e2, w1]
  · by_cases w2 : c.word = "tried"
    · simp [R.oc, cl, e2, w2]
    · simp [R.oc, cl, e2, w1, w2]
theorem s_time_bad [PTimeOf Pg] (n : Nat) (R : Rep h L st) (a : A) (ha : notLoc a = true) (hb : isCnt a 1 st.calls.length = false) : callF Pg (n + 3) "Caller.time_of" [.loc L.c, a] h = .exc "BadCall" h := by
  rw [c_Caller_time_of]
  simp [f_Caller_time_of, R.oc, s_call_bad (Pg := Pg) n R a ha hb]
def addS (st : CS) (z : Str) : CS := { st with roads := putL z z st.roads }
theorem s_add_bad [PCaller Pg] (n : Nat) (R : Rep h L st) (a : A) (ha : okA a = true) (hb : nameA a = false ∨ addrA st.roads a = true ∨ 5 ≤ st.roads.length) : callF Pg (n + 3) "Caller.add_address" [.loc L.c, a] h = .exc "BadName" h := by
  rw [c_Caller_add_address]
  have b := s_need_name (Pg := Pg) n a h ha
  cases e : nameA a with
  | false =>
    rw [e] at b
    simp at b
    simp [f_Caller_add_address, b]
  | true =>
    rw [e] at b
    simp at b
    cases a with
    | str z =>
      cases e2 : getL z st.roads with
      | some y => simp [f_Caller_add_address, b, R.oc, R.or_, getK_dm, e2]
      | none =>
        have h5 : (5 : Int) ≤ st.roads.length := by
          rcases hb with hb | hb | hb
          · rw [e] at hb; cases hb
          · simp [addrA, e2] at hb
          · omega
        simp [f_Caller_add_address, b, R.oc, R.or_, getK_dm, e2, dm_len, h5]
    | _ => cases e
theorem s_add [PCaller Pg] (n : Nat) (R : Rep h L st) {z : Str} (hz : isName z = true) (hn : getL z st.roads = none) (h5 : st.roads.length < 5) : ∃ h', callF Pg (n + 3) "Caller.add_address" [.loc L.c, .str z] h = .ok .non h' ∧ Rep h' L (addS st z) ∧ Fr L.F h h' := by
  rw [c_Caller_add_address]
  have b := s_need_name (Pg := Pg) n (.str z) h (ok_name hz)
  have k1 : nameA (.str z) = true := hz
  rw [k1] at b
  simp at b
  have q5 : ¬ (5 : Int) ≤ st.roads.length := by omega
  have q6 : st.roads.length ≤ 100000 := by omega
  have pk := putKA_dm A.str z z st.roads
  refine ⟨_, ?_, R.setRoads _, Fr.set h _ (.inr (.inl rfl))⟩
  simp [f_Caller_add_address, b, R.oc, R.or_, getK_dm, hn, dm_len, q5, q6, pk]
end
end MC

namespace MC
open PySem L2 MI MT
def leadS (st : CS) (a b : Str) : CS := { st with roads := putL a b st.roads }
/-- does the leading make a ring -/
def pathF (rs : List (Str × Str)) : Nat → Str → List Str
  | 0, n => [n]
  | k + 1, n => match getL n rs with
    | some m => if m = n then [n] else n :: pathF rs k m
    | none => [n]
theorem Path.pathF {rs : List (Str × Str)} {n : Str} {p : List Str} (h : Path rs n p) : ∀ k, p.length ≤ k → MC.pathF rs k n = p := by
  induction h with
  | stop e =>
    intro k hk
    cases k with
    | zero => simp at hk
    | succ k => simp [MC.pathF, e]
  | @step n m p e ne g ih =>
    intro k hk
    cases k with
    | zero => simp at hk
    | succ k => simp [MC.pathF, e, ne, ih k (by simp at hk; omega)]
def ring (st : CS) (a b : Str) : Bool := !decide (a = b) && decide (a ∈ pathF st.roads 6 b)
section
variable {Pg : Prog} {h : AH} {L : Lay} {st : CS}
theorem s_lead_bad [PLead Pg] (n : Nat) (R : Rep h L st) (a b : A) (ha : okA a = true) (hb : okA b = true) (hx : (addrA st.roads a && addrA st.roads b) = false) : callF Pg (n + 4) "Caller.lead" [.loc L.c, a, b] h = .exc "BadName" h := by
  rw [c_Caller_lead]
  have b1 := s_need_address (Pg := Pg) n R a ha
  have b2 := s_need_address (Pg := Pg) n R b hb
  cases e1 : addrA st.roads a with
  | false =>
    rw [e1] at b1
    simp at b1
    simp [f_Caller_lead, R.oc, b1]
  | true =>
    rw [e1] at b1 hx
    have e2 : addrA st.roads b = false := by simpa using hx
    rw [e2] at b2
    simp at b1 b2
    simp [f_Caller_lead, R.oc, b1, b2]
theorem s_lead [PLead Pg] (n : Nat) (R : Rep h L st) (G : RoadsOk st.roads) {a b : Str} (ha : (getL a st.roads).isSome = true) (hb : (getL b st.roads).isSome = true) :
    if ring st a b then ∃ h', callF Pg (n + 4) "Caller.lead" [.loc L.c, .str a, .str b] h = .exc "BadName" h' ∧ Fr No h h'
    else ∃ h', callF Pg (n + 4) "Caller.lead" [.loc L.c, .str a, .str b] h = .ok .non h' ∧ Rep h' L (leadS st a b) ∧ Fr L.F h h' := by
  rw [c_Caller_lead]
  have b1 := s_need_ok (Pg := Pg) n R G ha
  have b2 := s_need_ok (Pg := Pg) n R G hb
  obtain ⟨p, hp⟩ := G.path b hb
  have hl := hp.len
  have h5 := G.len
  have rd := s_road (Pg := Pg) (n + 2) R hp (by omega)
  have ep : pathF st.roads 6 b = p := hp.pathF 6 (by omega)
  have il := inLs_strs a p
  have pk := putKA_dm A.str a b st.roads
  have q6 : st.roads.length ≤ 100000 := by omega
  unfold ring
  rw [ep]
  have oc1 := fun x => get_app (g := [x]) R.oc
  have or1 := fun x => get_app (g := [x]) R.or_
  generalize p.map A.str = PL at rd il
  by_cases e : a = b
  · subst e
    rw [if_neg (by simp)]
    refine ⟨_, ?_, R.setRoads _, Fr.set h _ (.inr (.inl rfl))⟩
    simp [f_Caller_lead, R.oc, R.or_, b1, dm_len, q6, pk]
  · by_cases e2 : a ∈ p
    · rw [if_pos (by simp [e, e2])]
      refine ⟨h ++ [.lst PL], ?_, Fr.app _ _ _⟩
      simp [e2] at il
      simp [f_Caller_lead, R.oc, b1, b2, e, rd, il]
    · rw [if_neg (by simp [e, e2])]
      have R1 : Rep (h ++ [.lst PL]) L st := R.fr (Fr.app No h _) fun _ _ => id
      refine ⟨_, ?_, R1.setRoads _, (Fr.app L.F h _).trans (Fr.set _ _ (.inr (.inl rfl)))⟩
      simp [e2] at il
      simp [f_Caller_lead, R.oc, b1, b2, e, rd, il, oc1, or1, dm_len, q6, pk]
end
theorem getL_put {β : Type} (k j : Str) (x : β) : ∀ rs : List (Str × β), getL j (putL k x rs) = if j = k then some x else getL j rs := by
  intro rs
  have app : ∀ (rs : List (Str × β)), (rs.any fun p => decide (p.1 = k)) = false → getL j (rs ++ [(k, x)]) = if j = k then some x else getL j rs := by
    intro rs
    induction rs with
    | nil =>
      intro _
      by_cases e : j = k
      · simp [getL, e]
      · have : ¬ k = j := fun z => e z.symm
        simp [getL, e, this]
    | cons p r ih =>
      intro ha
      rw [List.any_cons, Bool.or_eq_false_iff] at ha
      have hp : ¬ p.1 = k := by simpa using ha.1
      rw [List.cons_append]
      unfold getL
      rw [ih ha.2]
      by_cases e : p.1 = j
      · have : ¬ j = k := fun z => hp (e.trans z)
        simp [e, this]
      · simp [e]
  have rep : ∀ (rs : List (Str × β)), (rs.any fun p => decide (p.1 = k)) = true → getL j (rs.map fun p => if p.1 = k then (p.1, x) else p) = if j = k then some x else getL j rs := by
    intro rs
    induction rs with
    | nil => intro h; cases h
    | cons p r ih =>
      intro ha
      rw [List.map_cons]
      by_cases e : p.1 = k
      · simp only [e, if_true]
        by_cases ej : j = k
        · simp [getL, ej]
        · have : ¬ k = j := fun z => ej z.symm
          simp only [getL, this, if_false, ej, e]
          cases hr : r.any fun p => decide (p.1 = k) with
          | true => rw [ih hr]; simp [ej]
          | false =>
            congr 1
            have : r.map (fun p => if p.1 = k then (p.1, x) else p) = r := by
              conv => rhs; rw [← List.map_id r]
              refine List.map_congr_left fun q hq => ?_
              have := List.any_eq_false.mp hr q hq
              have hne : ¬ q.1 = k := by simpa using this
              simp [hne]
            rw [this]
      · have hr : (r.any fun p => decide (p.1 = k)) = true := by simpa [e] using ha
        simp only [e, if_false, getL]
        rw [ih hr]
        by_cases ej : p.1 = j
        · have : ¬ j = k := fun z => e (ej.trans z)
          simp [ej, this]
        · simp [ej]
  unfold putL
  cases ha : rs.any fun p => decide (p.1 = k) with
  | true => rw [if_pos rfl]; exact rep rs ha
  | false => rw [if_neg (by decide)]; exact app rs ha
theorem path_keep {rs : List (Str × Str)} {a b n : Str} {p : List Str} (h : Path rs n p) (ha : a ∉ p) : Path (putL a b rs) n p := by
  induction h with
  | @stop n e =>
    refine .stop ?_
    rw [getL_put, if_neg (fun z : n = a => ha (by rw [z]; exact List.mem_cons_self))]
    exact e
  | @step n m p e ne g ih =>
    refine .step ?_ ne (ih fun z => ha (List.mem_cons_of_mem _ z))
    rw [getL_put, if_neg (fun z : n = a => ha (by rw [z]; exact List.mem_cons_self))]
    exact e
theorem path_led {rs : List (Str × Str)} {a b n : Str} {p q : List Str} (h : Path rs n p) (hq : Path (putL a b rs) a q) : ∃ p', Path (putL a b rs) n p' := by
  induction h with
  | @stop n e =>
    by_cases z : n = a
    · rw [z]; exact ⟨q, hq⟩
    · refine ⟨_, .stop ?_⟩
      rw [getL_put, if_neg z]
      exact e
  | @step n m p e ne g ih =>
    by_cases z : n = a
    · rw [z]; exact ⟨q, hq⟩
    · obtain ⟨p', hp'⟩ := ih
      refine ⟨_, .step ?_ ne hp'⟩
      rw [getL_put, if_neg z]
      exact e
theorem any_of_get {β : Type} {k : Str} {rs : List (Str × β)} (h : (getL k rs).isSome = true) : (rs.any fun p => decide (p.1 = k)) = true := by rw [← getL_isSome]; exact h
theorem RoadsOk.lead {st : CS} (G : RoadsOk st.roads) {a b : Str} (ha : (getL a st.roads).isSome = true) (hb : (getL b st.roads).isSome = true) (hr : ring st a b = false) : RoadsOk (leadS st a b).roads := by
  obtain ⟨p, hp⟩ := G.path b hb
  have hl := hp.len
  have h5 := G.len
  have ep : pathF st.roads 6 b = p := hp.pathF 6 (by omega)
  have ga : getL a (putL a b st.roads) = some b := by rw [getL_put, if_pos rfl]
  have qa : ∃ q, Path (putL a b st.roads) a q := by
    by_cases e : a = b
    · subst e
      exact ⟨_, .stop ga⟩
    · have hn : a ∉ p := by
        unfold ring at hr
        rw [ep] at hr
        simpa [e] using hr
      exact ⟨_, .step ga (fun z => e z.symm) (path_keep hp hn)⟩
  obtain ⟨q, hq⟩ := qa
  have hany := any_of_get ha
  refine ⟨fun n hn => ?_, ?_, ?_⟩
  · have hn : (getL n (putL a b st.roads)).isSome = true := hn
    rw [getL_put] at hn
    by_cases z : n = a
    · rw [z]; exact ⟨q, hq⟩
    · rw [if_neg z] at hn
      obtain ⟨p', hp'⟩ := G.path n hn
      exact path_led hp' hq
  · show (putL a b st.roads).length ≤ 5
    unfold putL
    rw [hany, if_pos rfl, List.length_map]
    exact h5
  · show ∀ x ∈ putL a b st.roads, isName x.1 = true
    unfold putL
    rw [hany, if_pos rfl]
    intro x hx
    obtain ⟨y, hy, rfl⟩ := List.mem_map.mp hx
    have := G.name y hy
    split
    · exact this
    · exact this
theorem RoadsOk.add {st : CS} (G : RoadsOk st.roads) {z : Str} (hz : isName z = true) (hn : getL z st.roads = none) (h5 : st.roads.length < 5) : RoadsOk (addS st z).roads := by
  have hany : (st.roads.any fun p => decide (p.1 = z)) = false := by rw [← getL_isSome, hn]; rfl
  refine ⟨fun n hm => ?_, ?_, ?_⟩
  · have hm : (getL n (putL z z st.roads)).isSome = true := hm
    rw [getL_put] at hm
    have hq : Path (putL z z st.roads) z [z] := .stop (by rw [getL_put, if_pos rfl])
    by_cases e : n = z
    · rw [e]; exact ⟨_, hq⟩
    · rw [if_neg e] at hm
      obtain ⟨p', hp'⟩ := G.path n hm
      exact path_led hp' hq
  · show (putL z z st.roads).length ≤ 5
    have := putL_len z z st.roads
    omega
  · show ∀ x ∈ putL z z st.roads, isName x.1 = true
    unfold putL
    rw [hany, if_neg (by decide)]
    intro x hx
    rcases List.mem_append.mp hx with e | e
    · exact G.name x e
    · rw [List.mem_singleton.mp e]; exact hz
end MC

namespace MC
open PySem L2 MI MT
def stepT (st : CS) (i : Nat) : CS := match st.calls[i]? with
  | some c => if c.word = "tried" ∧ st.ru.r4 ≤ st.clock - c.time then failS st i c else st
  | none => st
def runT (st : CS) (j : Nat) : CS := (List.range j).foldl stepT st
def tick1 (st : CS) : CS := runT { st with clock := st.clock + 1 } st.calls.length
def tickS : Nat → CS → CS
  | 0, st => st
  | k + 1, st => tick1 (tickS k st)
def isTried (c : Cal) : Bool := decide (c.word = "tried")
/-- how many rows there are, and may yet come of themselves -/
def phi (st : CS) : Nat := st.rows.length + (st.calls.filter isTried).length
def TriedOk (st : CS) : Prop := ∀ c ∈ st.calls, c.word = "tried" → 0 ≤ c.fails ∧ c.fails < st.ru.r3
theorem count_set {α : Type} (P : α → Bool) {x y : α} : ∀ {xs : List α} {i : Nat}, xs[i]? = some x → ((xs.set i y).filter P).length + (if P x then 1 else 0) = (xs.filter P).length + (if P y then 1 else 0)
  | [], i, e => by simp at e
  | z :: xs, 0, e => by
    simp at e
    subst e
    cases hx : P z <;> cases hy : P y <;> simp [List.filter_cons, hx, hy]
  | z :: xs, i + 1, e => by
    have ih := count_set P (y := y) (xs := xs) (i := i) (by simpa using e)
    rw [List.set_cons_succ, List.filter_cons, List.filter_cons]
    cases hz : P z
    · simpa using ih
    · simp only [if_true, List.length_cons]
      omega
theorem fail_word (st : CS) (c : Cal) : (failC st c).word ≠ "tried" := by
  unfold failC
  split
  · show Str.ofString "put by" ≠ Str.ofString "tried"
    simp
  · show Str.ofString "waits" ≠ Str.ofString "tried"
    simp
theorem phi_fail {st : CS} {i : Nat} {c : Cal} (hc : st.calls[i]? = some c) (ht : c.word = "tried") : phi (failS st i c) = phi st := by
  have h1 := count_set isTried (y := failC st c) hc
  have a1 : isTried c = true := by simp [isTried, ht]
  have a2 : isTried (failC st c) = false := by simp [isTried, fail_word st c]
  rw [a1, a2] at h1
  simp only [if_true, Bool.false_eq_true, if_false] at h1
  show (st.rows ++ [_]).length + ((st.calls.set i (failC st c)).filter isTried).length = _
  unfold phi
  simp
  omega
theorem TriedOk.fail {st : CS} {i : Nat} {c : Cal} (T : TriedOk st) (hc : st.calls[i]? = some c) : TriedOk (failS st i c) := by
  intro d hd hw
  rcases List.mem_or_eq_of_mem_set (show d ∈ st.calls.set i (failC st c) from hd) with e | e
  · exact T d e hw
  · rw [e] at hw
    exact absurd hw (fail_word st c)
theorem stepT_ok {st : CS} (T : TriedOk st) (i : Nat) : TriedOk (stepT st i) ∧ phi (stepT st i) = phi st ∧ (stepT st i).ru = st.ru ∧ (stepT st i).clock = st.clock ∧ (stepT st i).roads = st.roads ∧ (stepT st i).calls.length = st.calls.length := by
  unfold stepT
  split
  · rename_i c hc
    split
    · rename_i h
      exact ⟨T.fail hc, phi_fail hc h.1, rfl, rfl, rfl, by show (st.calls.set i _).length = _; simp⟩
    · exact ⟨T, rfl, rfl, rfl, rfl, rfl⟩
  · exact ⟨T, rfl, rfl, rfl, rfl, rfl⟩
theorem runT_succ (st : CS) (j : Nat) : runT st (j + 1) = stepT (runT st j) j := by
  unfold runT
  rw [List.range_succ, List.foldl_append]
  rfl
theorem runT_ok {st : CS} (T : TriedOk st) : ∀ j, TriedOk (runT st j) ∧ phi (runT st j) = phi st ∧ (runT st j).ru = st.ru ∧ (runT st j).clock = st.clock ∧ (runT st j).roads = st.roads ∧ (runT st j).calls.length = st.calls.length
  | 0 => ⟨T, rfl, rfl, rfl, rfl, rfl⟩
  | j + 1 => by
    obtain ⟨a1, a2, a3, a4, a5, a6⟩ := runT_ok T j
    obtain ⟨b1, b2, b3, b4, b5, b6⟩ := stepT_ok a1 j
    rw [runT_succ]
    exact ⟨b1, b2.trans a2, b3.trans a3, b4.trans a4, b5.trans a5, b6.trans a6⟩
theorem TriedOk.clock {st : CS} (T : TriedOk st) (n : Int) : TriedOk { st with clock := n } := T
theorem tick1_ok {st : CS} (T : TriedOk st) : TriedOk (tick1 st) ∧ phi (tick1 st) = phi st ∧ (tick1 st).ru = st.ru ∧ (tick1 st).clock = st.clock + 1 ∧ (tick1 st).roads = st.roads ∧ (tick1 st).calls.length = st.calls.length :=
  runT_ok (st := { st with clock := st.clock + 1 }) T st.calls.length
theorem tickS_ok {st : CS} (T : TriedOk st) : ∀ k, TriedOk (tickS k st) ∧ phi (tickS k st) = phi st ∧ (tickS k st).ru = st.ru ∧ (tickS k st).clock = st.clock + k ∧ (tickS k st).roads = st.roads ∧ (tickS k st).calls.length = st.calls.length
  | 0 => ⟨T, rfl, rfl, by simp [tickS], rfl, rfl⟩
  | k + 1 => by
    obtain ⟨a1, a2, a3, a4, a5, a6⟩ := tickS_ok T k
    obtain ⟨b1, b2, b3, b4, b5, b6⟩ := tick1_ok a1
    exact ⟨b1, b2.trans a2, b3.trans a3, by show (tick1 (tickS k st)).clock = _; rw [b4, a4]; push_cast; omega, b5.trans a5, b6.trans a6⟩
section
variable {Pg : Prog} {h : AH} {L : Lay} {st : CS}
def tb (gn : Str) : Ss := bodyS (nthS 1 (f_Caller_tick gn).body)
def tc (gn : Str) : Ss := bodyS (nthS 1 (tb gn))
theorem tb_1 (gn : Str) : nthS 1 (tb gn) = .fo (.nm 3) (.seq (.meth (.var 0) "numbers" .nil)) (tc gn) := rfl
theorem s_tickIn [PCaller Pg] (gn : Str) (n : Nat) (R : Rep h L st) (rl : st.ru.ok) (hn : st.calls.length ≤ 30) (T : TriedOk st) (hp : phi st ≤ 90000) {s : ASt} (sl : s.length = 5) (s0 : s[0]? = some (some (.loc L.c))) :
    ∃ s' h', evS Pg (callF Pg (n + 2)) (nthS 1 (tb gn)) s h = .nx s' h' ∧ s'.length = 5 ∧ s'[0]? = some (some (.loc L.c)) ∧ Rep h' L (runT st st.calls.length) ∧ Fr L.F h h' ∧ h'.length = h.length := by
  have nm := s_numbers (Pg := Pg) (n + 1) R (by omega)
  obtain ⟨s', h', e1, i1, i2, i3, i4, i5⟩ := for_seq (xs := nums st.calls.length) (bd := forB Pg (callF Pg (n + 2)) (.nm 3) (tc gn)) (s := s) (h := h)
    (fun j s h' => s.length = 5 ∧ s[0]? = some (some (.loc L.c)) ∧ Rep h' L (runT st j) ∧ Fr L.F h h' ∧ h'.length = h.length) ⟨sl, s0, R, Fr.refl _ _, rfl⟩ (fun j x s h1 hx I => by
      obtain ⟨sl, s0, R1, f, hl⟩ := I
      obtain ⟨hj, rfl⟩ := nums_at hx
      obtain ⟨a1, a2, a3, a4, a5, a6⟩ := runT_ok T j
      rw [runT_succ]
      obtain ⟨l, d, q1, q2, q3⟩ := R1.pick (j := j) (by omega)
      have g0 : getK (.inl ((j : Int) + 1) : Key) (numD 1 L.ls) = some (.loc l) := by rw [getK_1, q1]; rfl
      simp only [calFs] at q3
      have h3 : 3 < s.length := by omega
      have h4 : 4 < s.length := by omega
      have es : stepT (runT st j) j = if d.word = "tried" ∧ (runT st j).ru.r4 ≤ (runT st j).clock - d.time then failS (runT st j) j d else runT st j := by
        unfold stepT
        rw [q2]
      rw [es]
      generalize runT st j = stj at *
      by_cases w1 : d.word = "tried"
      · by_cases w2 : stj.ru.r4 ≤ stj.clock - d.time
        · obtain ⟨h2, f1, f2, f3, f4⟩ := s_fail (Pg := Pg) n R1 (by rw [a3]; exact rl) q2 (a1 d (List.mem_of_getElem? q2) w1) (by unfold phi at a2 hp; omega)
          rw [if_pos ⟨w1, w2⟩]
          refine ⟨(s.set 3 (some (.int ((j : Int) + 1)))).set 4 (some (.loc l)), h2, .inl ?_, by simp [sl], by simpa [List.getElem?_set] using s0, f2, f.trans f3, by omega⟩
          simp only [forB_eq, evG_nm, toF_ok, tc, tb, nthS, dropS, tlS, hdS, bodyS, f_Caller_tick]
          simp [List.getElem?_set, h3, h4, s0, R1.oc, R1.ok, g0, q3, w1, w2, f1]
        · rw [if_neg (fun z => w2 z.2)]
          refine ⟨(s.set 3 (some (.int ((j : Int) + 1)))).set 4 (some (.loc l)), h1, .inl ?_, by simp [sl], by simpa [List.getElem?_set] using s0, R1, f, hl⟩
          simp only [forB_eq, evG_nm, toF_ok, tc, tb, nthS, dropS, tlS, hdS, bodyS, f_Caller_tick]
          simp [List.getElem?_set, h3, h4, s0, R1.oc, R1.ok, g0, q3, w1, w2]
      · rw [if_neg (fun z => w1 z.1)]
        refine ⟨(s.set 3 (some (.int ((j : Int) + 1)))).set 4 (some (.loc l)), h1, .inl ?_, by simp [sl], by simpa [List.getElem?_set] using s0, R1, f, hl⟩
        simp only [forB_eq, evG_nm, toF_ok, tc, tb, nthS, dropS, tlS, hdS, bodyS, f_Caller_tick]
        simp [List.getElem?_set, h3, h4, s0, R1.oc, R1.ok, g0, q3, w1])
  rw [nums_len] at i3
  have ei : evI Pg (callF Pg (n + 2)) (.seq (.meth (.var 0) "numbers" .nil)) s h = .ok ⟨seqN (nums st.calls.length), (nums st.calls.length).length + 1, none⟩ h := by
    simp [s0, R.oc, nm]
  exact ⟨s', h', by rw [tb_1]; exact fo_at ei e1, i1, i2, i3, i4, i5⟩
theorem s_tick_bad [PCaller Pg] (n : Nat) (R : Rep h L st) (a : A) (ha : notLoc a = true) (hb : isCnt a 0 100 = false) : callF Pg (n + 2) "Caller.tick" [.loc L.c, a] h = .exc "BadTime" h := by
  obtain ⟨gn, e⟩ := c_Caller_tick (Pg := Pg) (n + 1) [.loc L.c, a] h
  have c := s_is_count (Pg := Pg) n a 0 100 h ha
  rw [hb] at c
  rw [e]
  simp [f_Caller_tick, c]
theorem s_tick [PCaller Pg] (n : Nat) (R : Rep h L st) (rl : st.ru.ok) (hn : st.calls.length ≤ 30) (T : TriedOk st) (hp : phi st ≤ 90000) (m : Nat) (hm : m ≤ 100) :
    ∃ h', callF Pg (n + 3) "Caller.tick" [.loc L.c, .int m] h = .ok .non h' ∧ Rep h' L (tickS m st) ∧ Fr L.F h h' ∧ h'.length = h.length := by
  obtain ⟨gn, e⟩ := c_Caller_tick (Pg := Pg) (n + 2) [.loc L.c, .int m] h
  rw [e]
  have c := s_is_count (Pg := Pg) (n + 1) (.int m) 0 100 h rfl
  have hc : isCnt (.int m) 0 100 = true := by simp [isCnt]; omega
  rw [hc] at c
  obtain ⟨s', h', e1, i1, i2, i3, i4, i5⟩ := for_range (lo := 0) (n := m) (bd := forB Pg (callF Pg (n + 2)) (.nm 2) (tb gn)) (s := [some (.loc L.c), some (.int m), none, none, none]) (h := h)
    (fun j s h' => s.length = 5 ∧ s[0]? = some (some (.loc L.c)) ∧ Rep h' L (tickS j st) ∧ Fr L.F h h' ∧ h'.length = h.length) ⟨rfl, rfl, R, Fr.refl _ _, rfl⟩ (fun j s h1 hj I => by
      obtain ⟨sl, s0, R1, f, hl⟩ := I
      obtain ⟨a1, a2, a3, a4, a5, a6⟩ := tickS_ok T j
      have R2 := R1.setClock ((tickS j st).clock + 1)
      have b0 : evS Pg (callF Pg (n + 2)) (nthS 0 (tb gn)) (s.set 2 (some (.int (0 + j)))) h1 = .nx (s.set 2 (some (.int (0 + j)))) (h1.set L.c (.ins "Caller" (callerFs (ruA (tickS j st).ru) (.int ((tickS j st).clock + 1)) (.loc L.r) (.loc L.k) (.loc L.w)))) := by
        simp [tb, nthS, dropS, tlS, hdS, bodyS, f_Caller_tick, List.getElem?_set, s0, R1.oc]
      obtain ⟨s2, h2, b1, j1, j2, j3, j4, j5⟩ := s_tickIn (Pg := Pg) gn n R2 (by rw [a3]; exact rl) (by show (tickS j st).calls.length ≤ 30; omega) (a1.clock _) (by show phi (tickS j st) ≤ 90000; omega) (s := s.set 2 (some (.int (0 + j)))) (by simp [sl]) (by simpa [List.getElem?_set] using s0)
      refine ⟨s2, h2, .inl ?_, j1, j2, j3, f.trans ((Fr.set h1 _ (.inl rfl)).trans j4), by rw [j5]; simpa using hl⟩
      rw [forB_eq, evG_nm, toF_ok]
      exact (step_at (ss := tb gn) (n := 0) rfl b0).trans ((step_at rfl b1).trans rfl))
  refine ⟨h', ?_, i3, i4, i5⟩
  have b0 : evS Pg (callF Pg (n + 2)) (nthS 0 (f_Caller_tick gn).body) [some (.loc L.c), some (.int m), none, none, none] h = .nx [some (.loc L.c), some (.int m), none, none, none] h := by
    simp [nthS, dropS, tlS, hdS, f_Caller_tick, c]
  have b1 : evS Pg (callF Pg (n + 2)) (nthS 1 (f_Caller_tick gn).body) [some (.loc L.c), some (.int m), none, none, none] h = .nx s' h' :=
    fo_at (t := .nm 2) (b := tb gn) (ev_rng1 (a := .var 1) m (by simp) rfl (by omega)) e1
  exact run_at (fn := f_Caller_tick gn) (r := .nx s' h') rfl ((step_at (ss := (f_Caller_tick gn).body) (n := 0) rfl b0).trans ((step_at rfl b1).trans rfl))
end
end MC

namespace MC
open PySem L2 MI MT
def newS (r : Ru) : CS := ⟨r, 0, [], [], []⟩
def layN (k : Nat) : Lay := ⟨k, k + 1, k + 2, k + 3, []⟩
section
variable {Pg : Prog} {h : AH} {L : Lay} {st : CS}
theorem s_Caller [PCaller Pg] (n : Nat) (h : AH) (r : Ru) (hr : r.ok) : ∃ h', callF Pg (n + 3) "Caller.__init__" [.loc h.length, ruA r] (h ++ [.ins "Caller" []]) = .ok .non h' ∧ Rep h' (layN h.length) (newS r) ∧ h'.length = h.length + 4 ∧ Fr No h h' := by
  rw [c_Caller___init__]
  have nd := s_need_rule (Pg := Pg) n (ruA r) (h ++ [.ins "Caller" []]) rfl
  have gr : goodR (ruA r) = true := good_of hr
  rw [gr] at nd
  simp at nd
  refine ⟨h ++ [.ins "Caller" (callerFs (ruA r) (.int 0) (.loc (h.length + 1)) (.loc (h.length + 2)) (.loc (h.length + 3))), .dic false [], .dic false [], .lst []], ?_, ?_, by simp, Fr.app _ _ _⟩
  · simp only [f_Caller___init__]
    generalize ruA r = ra at nd
    simp [nd, dicPut, pairsA, mkDic, newL]
  · refine ⟨by simp [layN, newS], by simp [layN, newS, dm], by simp [layN, numD], by simp [layN, newS], rfl, fun i l c h1 h2 => by simp [layN] at h1, ?_, ?_, ?_, ?_, ?_, ?_, ?_, ?_, ?_, ?_, ?_⟩ <;> simp [layN]
theorem s_Caller_bad [PCaller Pg] (n : Nat) (h : AH) (l : A) (a : A) (ha : flatT a = true) (hb : goodR a = false) : callF Pg (n + 3) "Caller.__init__" [l, a] h = .exc "BadRule" h := by
  rw [c_Caller___init__]
  have nd := s_need_rule (Pg := Pg) n a h ha
  rw [hb] at nd
  simp at nd
  simp [f_Caller___init__, nd]
end
/-- what is so of every caller -/
structure WF (st : CS) : Prop where
  ru : st.ru.ok
  roads : RoadsOk st.roads
  n30 : st.calls.length ≤ 30
  goal : ∀ c ∈ st.calls, (getL c.goal st.roads).isSome = true
  fails : ∀ c ∈ st.calls, c.word = "tried" ∨ c.word = "waits" → 0 ≤ c.fails ∧ c.fails < st.ru.r3
  time : ∀ c ∈ st.calls, c.word = "tried" → 0 ≤ st.clock - c.time ∧ st.clock - c.time < st.ru.r4
  key : ∀ c ∈ st.calls, isName c.key = true ∧ isText c.text = true
theorem WF.tried {st : CS} (w : WF st) : TriedOk st := fun c hc ht => w.fails c hc (.inl ht)
theorem WF.new (r : Ru) (hr : r.ok) : WF (newS r) := ⟨hr, ⟨fun n h => by simp [newS, getL] at h, by simp [newS], by simp [newS]⟩, by simp [newS], by simp [newS], by simp [newS], by simp [newS], by simp [newS]⟩
end MC

namespace MC
open PySem L2 MI MT
def ownD (x0 x1 x2 x3 x4 : A) : List (Key × A) := [(.inr "rule", x0), (.inr "now", x1), (.inr "roads", x2), (.inr "calls", x3), (.inr "log", x4)]
theorem ownD_len (x0 x1 x2 x3 x4 : A) : (ownD x0 x1 x2 x3 x4).length = 5 := rfl
@[simp] theorem ownD_get_rule (x0 x1 x2 x3 x4 : A) : getK (.inr (Str.ofString "rule") : Key) (ownD x0 x1 x2 x3 x4) = some x0 := by kernel_rfl
@[simp] theorem ownD_put_rule (x0 x1 x2 x3 x4 y : A) : putKA (.inr (Str.ofString "rule")) y (ownD x0 x1 x2 x3 x4) = ownD y x1 x2 x3 x4 := by kernel_rfl
@[simp] theorem ownD_get_now (x0 x1 x2 x3 x4 : A) : getK (.inr (Str.ofString "now") : Key) (ownD x0 x1 x2 x3 x4) = some x1 := by kernel_rfl
@[simp] theorem ownD_put_now (x0 x1 x2 x3 x4 y : A) : putKA (.inr (Str.ofString "now")) y (ownD x0 x1 x2 x3 x4) = ownD x0 y x2 x3 x4 := by kernel_rfl
@[simp] theorem ownD_get_roads (x0 x1 x2 x3 x4 : A) : getK (.inr (Str.ofString "roads") : Key) (ownD x0 x1 x2 x3 x4) = some x2 := by kernel_rfl
@[simp] theorem ownD_put_roads (x0 x1 x2 x3 x4 y : A) : putKA (.inr (Str.ofString "roads")) y (ownD x0 x1 x2 x3 x4) = ownD x0 x1 y x3 x4 := by kernel_rfl
@[simp] theorem ownD_get_calls (x0 x1 x2 x3 x4 : A) : getK (.inr (Str.ofString "calls") : Key) (ownD x0 x1 x2 x3 x4) = some x3 := by kernel_rfl
@[simp] theorem ownD_put_calls (x0 x1 x2 x3 x4 y : A) : putKA (.inr (Str.ofString "calls")) y (ownD x0 x1 x2 x3 x4) = ownD x0 x1 x2 y x4 := by kernel_rfl
@[simp] theorem ownD_get_log (x0 x1 x2 x3 x4 : A) : getK (.inr (Str.ofString "log") : Key) (ownD x0 x1 x2 x3 x4) = some x4 := by kernel_rfl
@[simp] theorem ownD_put_log (x0 x1 x2 x3 x4 y : A) : putKA (.inr (Str.ofString "log")) y (ownD x0 x1 x2 x3 x4) = ownD x0 x1 x2 x3 y := by kernel_rfl
def cdD (x0 x1 x2 x3 x4 x5 x6 x7 : A) : List (Key × A) := [(.inr "key", x0), (.inr "goal", x1), (.inr "place", x2), (.inr "text", x3), (.inr "word", x4), (.inr "fails", x5), (.inr "many", x6), (.inr "time", x7)]
theorem cdD_len (x0 x1 x2 x3 x4 x5 x6 x7 : A) : (cdD x0 x1 x2 x3 x4 x5 x6 x7).length = 8 := rfl
@[simp] theorem cdD_get_key (x0 x1 x2 x3 x4 x5 x6 x7 : A) : getK (.inr (Str.ofString "key") : Key) (cdD x0 x1 x2 x3 x4 x5 x6 x7) = some x0 := by kernel_rfl
@[simp] theorem cdD_put_key (x0 x1 x2 x3 x4 x5 x6 x7 y : A) : putKA (.inr (Str.ofString "key")) y (cdD x0 x1 x2 x3 x4 x5 x6 x7) = cdD y x1 x2 x3 x4 x5 x6 x7 := by kernel_rfl
@[simp] theorem cdD_get_goal (x0 x1 x2 x3 x4 x5 x6 x7 : A) : getK (.inr (Str.ofString "goal") : Key) (cdD x0 x1 x2 x3 x4 x5 x6 x7) = some x1 := by kernel_rfl
@[simp] theorem cdD_put_goal (x0 x1 x2 x3 x4 x5 x6 x7 y : A) : putKA (.inr (Str.ofString "goal")) y (cdD x0 x1 x2 x3 x4 x5 x6 x7) = cdD x0 y x2 x3 x4 x5 x6 x7 := by kernel_rfl
@[simp] theorem cdD_get_place (x0 x1 x2 x3 x4 x5 x6 x7 : A) : getK (.inr (Str.ofString "place") : Key) (cdD x0 x1 x2 x3 x4 x5 x6 x7) = some x2 := by kernel_rfl
@[simp] theorem cdD_put_place (x0 x1 x2 x3 x4 x5 x6 x7 y : A) : putKA (.inr (Str.ofString "place")) y (cdD x0 x1 x2 x3 x4 x5 x6 x7) = cdD x0 x1 y x3 x4 x5 x6 x7 := by kernel_rfl
@[simp] theorem cdD_get_text (x0 x1 x2 x3 x4 x5 x6 x7 : A) : getK (.inr (Str.ofString "text") : Key) (cdD x0 x1 x2 x3 x4 x5 x6 x7) = some x3 := by kernel_rfl
@[simp] theorem cdD_put_text (x0 x1 x2 x3 x4 x5 x6 x7 y : A) : putKA (.inr (Str.ofString "text")) y (cdD x0 x1 x2 x3 x4 x5 x6 x7) = cdD x0 x1 x2 y x4 x5 x6 x7 := by kernel_rfl
@[simp] theorem cdD_get_word (x0 x1 x2 x3 x4 x5 x6 x7 : A) : getK (.inr (Str.ofString "word") : Key) (cdD x0 x1 x2 x3 x4 x5 x6 x7) = some x4 := by kernel_rfl
@[simp] theorem cdD_put_word (x0 x1 x2 x3 x4 x5 x6 x7 y : A) : putKA (.inr (Str.ofString "word")) y (cdD x0 x1 x2 x3 x4 x5 x6 x7) = cdD x0 x1 x2 x3 y x5 x6 x7 := by kernel_rfl
@[simp] theorem cdD_get_fails (x0 x1 x2 x3 x4 x5 x6 x7 : A) : getK (.inr (Str.ofString "fails") : Key) (cdD x0 x1 x2 x3 x4 x5 x6 x7) = some x5 := by kernel_rfl
@[simp] theorem cdD_put_fails (x0 x1 x2 x3 x4 x5 x6 x7 y : A) : putKA (.inr (Str.ofString "fails")) y (cdD x0 x1 x2 x3 x4 x5 x6 x7) = cdD x0 x1 x2 x3 x4 y x6 x7 := by kernel_rfl
@[simp] theorem cdD_get_many (x0 x1 x2 x3 x4 x5 x6 x7 : A) : getK (.inr (Str.ofString "many") : Key) (cdD x0 x1 x2 x3 x4 x5 x6 x7) = some x6 := by kernel_rfl
@[simp] theorem cdD_put_many (x0 x1 x2 x3 x4 x5 x6 x7 y : A) : putKA (.inr (Str.ofString "many")) y (cdD x0 x1 x2 x3 x4 x5 x6 x7) = cdD x0 x1 x2 x3 x4 x5 y x7 := by kernel_rfl
@[simp] theorem cdD_get_time (x0 x1 x2 x3 x4 x5 x6 x7 : A) : getK (.inr (Str.ofString "time") : Key) (cdD x0 x1 x2 x3 x4 x5 x6 x7) = some x7 := by kernel_rfl
@[simp] theorem cdD_put_time (x0 x1 x2 x3 x4 x5 x6 x7 y : A) : putKA (.inr (Str.ofString "time")) y (cdD x0 x1 x2 x3 x4 x5 x6 x7) = cdD x0 x1 x2 x3 x4 x5 x6 y := by kernel_rfl
def calD (c : Cal) : List (Key × A) := cdD (.str c.key) (.str c.goal) (.str c.place) (.str c.text) (.str c.word) (.int c.fails) (.int c.many) (.int c.time)
/-- the law's own caller in the heap: c its dict, r the roads, k the calls, w the log -/
structure RepO (h : AH) (L : Lay) (st : CS) : Prop where
  oc : h[L.c]? = some (.dic false (ownD (ruA st.ru) (.int st.clock) (.loc L.r) (.loc L.k) (.loc L.w)))
  or_ : h[L.r]? = some (.dic false (dm A.str st.roads))
  ok : h[L.k]? = some (.lst (L.ls.map A.loc))
  ow : h[L.w]? = some (.lst (st.rows.map rowA))
  len : L.ls.length = st.calls.length
  at_ : ∀ (i : Nat) (l : Nat) (c : Cal), L.ls[i]? = some l → st.calls[i]? = some c → h[l]? = some (.dic false (calD c))
  cr : L.c ≠ L.r
  ck : L.c ≠ L.k
  cw : L.c ≠ L.w
  rk : L.r ≠ L.k
  rw_ : L.r ≠ L.w
  kw : L.k ≠ L.w
  lc : L.c ∉ L.ls
  lr : L.r ∉ L.ls
  lk : L.k ∉ L.ls
  lw : L.w ∉ L.ls
  nd : L.ls.Nodup
section
variable {h h' : AH} {L : Lay} {st : CS}
theorem RepO.fr {F : Nat → Prop} (R : RepO h L st) (f : Fr F h h') (d : ∀ x, L.F x → ¬ F x) : RepO h' L st where
  oc := f.get R.oc (d _ (.inl rfl))
  or_ := f.get R.or_ (d _ (.inr (.inl rfl)))
  ok := f.get R.ok (d _ (.inr (.inr (.inl rfl))))
  ow := f.get R.ow (d _ (.inr (.inr (.inr (.inl rfl)))))
  len := R.len
  at_ := fun i l c h1 h2 => f.get (R.at_ i l c h1 h2) (d _ (.inr (.inr (.inr (.inr (List.mem_of_getElem? h1))))))
  cr := R.cr
  ck := R.ck
  cw := R.cw
  rk := R.rk
  rw_ := R.rw_
  kw := R.kw
  lc := R.lc
  lr := R.lr
  lk := R.lk
  lw := R.lw
  nd := R.nd
theorem RepO.lt (R : RepO h L st) : ∀ x, L.F x → x < h.length := by
  rintro x (e | e | e | e | e)
  · rw [e]; exact lt_of_get R.oc
  · rw [e]; exact lt_of_get R.or_
  · rw [e]; exact lt_of_get R.ok
  · rw [e]; exact lt_of_get R.ow
  · obtain ⟨i, hi⟩ := List.mem_iff_getElem?.mp e
    have hl : i < L.ls.length := (List.getElem?_eq_some_iff.mp hi).1
    have hc : i < st.calls.length := by rw [← R.len]; exact hl
    exact lt_of_get (R.at_ i x st.calls[i] hi (List.getElem?_eq_getElem hc))
/-- a call's place -/
theorem RepO.call (R : RepO h L st) {i : Nat} {c : Cal} (hc : st.calls[i]? = some c) : ∃ l, L.ls[i]? = some l ∧ h[l]? = some (.dic false (calD c)) ∧ l ∈ L.ls ∧ L.c ≠ l ∧ L.r ≠ l ∧ L.k ≠ l ∧ L.w ≠ l := by
  have hi : i < st.calls.length := (List.getElem?_eq_some_iff.mp hc).1
  have hl : i < L.ls.length := by rw [R.len]; exact hi
  have e := List.getElem?_eq_getElem hl
  have m : L.ls[i] ∈ L.ls := List.getElem_mem hl
  exact ⟨L.ls[i], e, R.at_ i _ c e hc, m, fun z => R.lc (z ▸ m), fun z => R.lr (z ▸ m), fun z => R.lk (z ▸ m), fun z => R.lw (z ▸ m)⟩
/-- a call is written -/
theorem RepO.setCall (R : RepO h L st) {i l : Nat} (c : Cal) (hl : L.ls[i]? = some l) : RepO (h.set l (.dic false (calD c))) L { st with calls := st.calls.set i c } := by
  have m := List.mem_of_getElem? hl
  have hi : i < L.ls.length := (List.getElem?_eq_some_iff.mp hl).1
  have ll := R.lt l (.inr (.inr (.inr (.inr m))))
  refine { R with oc := ?_, or_ := ?_, ok := ?_, ow := ?_, len := by simpa using R.len, at_ := fun j m' d h1 h2 => ?_ }
  · rw [List.getElem?_set_ne (fun z => R.lc (by rw [← z]; exact m))]; exact R.oc
  · rw [List.getElem?_set_ne (fun z => R.lr (by rw [← z]; exact m))]; exact R.or_
  · rw [List.getElem?_set_ne (fun z => R.lk (by rw [← z]; exact m))]; exact R.ok
  · rw [List.getElem?_set_ne (fun z => R.lw (by rw [← z]; exact m))]; exact R.ow
  · by_cases e : i = j
    · subst e
      rw [hl] at h1
      cases h1
      have : i < st.calls.length := by rw [← R.len]; exact hi
      rw [List.getElem?_set_self this] at h2
      cases h2
      rw [List.getElem?_set_self ll]
    · have hj : j < L.ls.length := (List.getElem?_eq_some_iff.mp h1).1
      have ne : l ≠ m' := fun z => e ((List.getElem?_inj hi R.nd).mp (by rw [hl, h1, z]))
      dsimp only at h2
      rw [List.getElem?_set_ne e] at h2
      rw [List.getElem?_set_ne ne]
      exact R.at_ j m' d h1 h2
theorem RepO.setClock (R : RepO h L st) (n : Int) : RepO (h.set L.c (.dic false (ownD (ruA st.ru) (.int n) (.loc L.r) (.loc L.k) (.loc L.w)))) L { st with clock := n } := by
  refine { R with oc := ?_, or_ := ?_, ok := ?_, ow := ?_, at_ := fun j m' d h1 h2 => ?_ }
  · rw [List.getElem?_set_self (lt_of_get R.oc)]
  · rw [List.getElem?_set_ne R.cr]; exact R.or_
  · rw [List.getElem?_set_ne R.ck]; exact R.ok
  · rw [List.getElem?_set_ne R.cw]; exact R.ow
  · rw [List.getElem?_set_ne (fun z => R.lc (by rw [z]; exact List.mem_of_getElem? h1))]
    exact R.at_ j m' d h1 h2
theorem RepO.setRows (R : RepO h L st) (rows : List (Int × Int × Str)) : RepO (h.set L.w (.lst (rows.map rowA))) L { st with rows := rows } := by
  refine { R with oc := ?_, or_ := ?_, ok := ?_, ow := ?_, at_ := fun j m' d h1 h2 => ?_ }
  · rw [List.getElem?_set_ne R.cw.symm]; exact R.oc
  · rw [List.getElem?_set_ne R.rw_.symm]; exact R.or_
  · rw [List.getElem?_set_ne R.kw.symm]; exact R.ok
  · rw [List.getElem?_set_self (lt_of_get R.ow)]
  · rw [List.getElem?_set_ne (fun z => R.lw (by rw [z]; exact List.mem_of_getElem? h1))]
    exact R.at_ j m' d h1 h2
theorem RepO.setRoads (R : RepO h L st) (rs : List (Str × Str)) : RepO (h.set L.r (.dic false (dm A.str rs))) L { st with roads := rs } := by
  refine { R with oc := ?_, or_ := ?_, ok := ?_, ow := ?_, at_ := fun j m' d h1 h2 => ?_ }
  · rw [List.getElem?_set_ne R.cr.symm]; exact R.oc
  · rw [List.getElem?_set_self (lt_of_get R.or_)]
  · rw [List.getElem?_set_ne R.rk]; exact R.ok
  · rw [List.getElem?_set_ne R.rw_]; exact R.ow
  · rw [List.getElem?_set_ne (fun z => R.lr (by rw [z]; exact List.mem_of_getElem? h1))]
    exact R.at_ j m' d h1 h2
end

end MC

namespace MC
open PySem L2 MI MT
theorem mk_own (a b c d e : A) : mkDic [(.inr "rule", a), (.inr "now", b), (.inr "roads", c), (.inr "calls", d), (.inr "log", e)] = ownD a b c d e := by kernel_rfl
section
variable {Pg : Prog} {h : AH} {L : Lay} {st : CS}
theorem s_own [POwn Pg] (n : Nat) (h : AH) (r : Ru) : ∃ h', callF Pg (n + 1) "_law_own" [ruA r] h = .ok (.loc h.length) h' ∧ RepO h' (layN h.length) (newS r) ∧ h'.length = h.length + 4 ∧ Fr No h h' := by
  rw [c__law_own]
  refine ⟨h ++ [.dic false (ownD (ruA r) (.int 0) (.loc (h.length + 1)) (.loc (h.length + 2)) (.loc (h.length + 3))), .dic false [], .lst [], .lst []], ?_, ?_, by simp, Fr.app _ _ _⟩
  · simp only [f__law_own]
    generalize ruA r = ra
    have mk := mk_own ra (.int 0) (.loc (h.length + 1)) (.loc (h.length + 2)) (.loc (h.length + 3))
    have e0 : mkDic [] = [] := rfl
    simp [dicPut, pairsA, newL, e0, mk]
  · refine ⟨by simp [layN, newS], by simp [layN, newS, dm], by simp [layN], by simp [layN, newS], rfl, fun i l c h1 h2 => by simp [layN] at h1, ?_, ?_, ?_, ?_, ?_, ?_, ?_, ?_, ?_, ?_, ?_⟩ <;> simp [layN]
theorem s_real [POwn Pg] (n : Nat) (R : RepO h L st) (G : RoadsOk st.roads) {z : Str} (hz : (getL z st.roads).isSome = true) : callF Pg (n + 1) "_law_real" [.loc L.c, .str z] h = .ok (.str (endOf st z)) h := by
  obtain ⟨p, hp⟩ := G.path z hz
  have hl := hp.len
  have h5 := G.len
  have key : ∀ (f : Nat) (y : Str) (q : List Str), Path st.roads y q → q.length ≤ f →
      whileL (evE Pg (callF Pg n) (.cmp .NotEq (.ix (.ix (.var 0) (.con (.str "roads"))) (.var 1)) (.var 1))) (evSs Pg (callF Pg n) (.cons (.asg (.nm 1) (.ix (.ix (.var 0) (.con (.str "roads"))) (.var 1))) .nil)) f [some (.loc L.c), some (.str y)] h = .nx [some (.loc L.c), some (.str (q.getLastD y))] h := by
    intro f
    induction f with
    | zero => intro y q hq h1; exact absurd (List.length_eq_zero_iff.mp (Nat.le_zero.mp h1)) hq.ne
    | succ f ih =>
      intro y q hq h1
      cases hq with
      | stop e =>
        simp only [whileL]
        simp [R.oc, R.or_, getK_dm, e]
      | @step _ m q e ne g =>
        have r := ih m q g (by simp at h1; omega)
        obtain ⟨q', rfl⟩ := g.head
        have el : (y :: m :: q').getLastD y = (m :: q').getLastD m := by simp [List.getLastD]
        rw [el, ← r]
        conv => lhs; unfold whileL
        have ne' : ¬ m = y := ne
        simp [R.oc, R.or_, getK_dm, e, ne']
  rw [c__law_real]
  have r := key 1000 z p hp (by omega)
  have e : endOf st z = p.getLastD z := hp.endF 6 (by omega)
  rw [e]
  simp only [f__law_real]
  simp [r]
theorem sort2 (a b : Int) : L2.atI ((sortI [a, b]).map A.int) 0 = some (.int (mn a b)) := by
  unfold mn
  by_cases e : a ≤ b <;> simp [sortI, insI, e, L2.atI, L2.ixN]
theorem s_law_wait [POwn Pg] {r : Ru} (R : r.ok) (n f : Nat) (hf : 1 ≤ f ∧ f ≤ 5) (h : AH) : callF Pg (n + 1) "_law_wait" [ruA r, .int f] h = .ok (.int (W r.r0 r.r1 r.r2 f)) h := by
  rw [c__law_wait]
  have m : ∀ i, mulOk i r.r1 = true := fun i => mulOk_r (by have := R.b1; omega)
  have s2 := fun a b => sort2 a b
  have srt : ∀ a b : Int, sortA [.int a, .int b] = some ((sortI [a, b]).map A.int) := fun a b => rfl
  have h2 : f = 1 ∨ f = 2 ∨ f = 3 ∨ f = 4 ∨ f = 5 := by omega
  have i0 : ∀ h : AH, ixA h (ruA r) (.int 0) = some (.int r.r0) := fun _ => rfl
  have i1 : ∀ h : AH, ixA h (ruA r) (.int 1) = some (.int r.r1) := fun _ => rfl
  have i2 : ∀ h : AH, ixA h (ruA r) (.int 2) = some (.int r.r2) := fun _ => rfl
  simp only [f__law_wait]
  generalize ruA r = ra at i0 i1 i2
  rcases h2 with e | e | e | e | e <;> subst e <;> simp [evI_rng2, forL_succ, rngA, i0, i1, i2, m, srt, s2, W, Int.pow_succ, Int.mul_assoc]
end
end MC

namespace MC
open PySem L2 MI MT
/-- a comprehension whose turns are known by their places -/
theorem comp_zipS {nx : Nat → AH → Option (Option A)} {bd : A → AH → R (Option A)} {xs : List A} {ys : List (Option A)} {h : AH} (hnx : ∀ i, nx i h = some xs[i]?) (hl : ys.length = xs.length) (hb : ∀ (j : Nat) (x : A) (y : Option A), xs[j]? = some x → ys[j]? = some y → bd x h = .ok y h) (hs : xs.length ≤ 100000) :
    ∀ (m i : Nat) (acc : List A), i + m = xs.length → acc.length ≤ i → compL nx bd (m + 1) i acc h = .ok (acc ++ (ys.drop i).filterMap id) h
  | 0, i, acc, e, la => by
    unfold compL
    have : xs[i]? = none := by simp; omega
    simp only [hnx, this]
    rw [List.drop_eq_nil_of_le (by omega)]
    simp
  | m + 1, i, acc, e, la => by
    have hi : i < xs.length := by omega
    have hy : i < ys.length := by omega
    have e1 := hb i xs[i] ys[i] (List.getElem?_eq_getElem hi) (List.getElem?_eq_getElem hy)
    have ed : ys.drop i = ys[i] :: ys.drop (i + 1) := (List.getElem_cons_drop hy).symm
    unfold compL
    simp only [hnx, List.getElem?_eq_getElem hi, e1]
    rw [ed, List.filterMap_cons]
    cases eg : ys[i] with
    | none => exact comp_zipS hnx hl hb hs m (i + 1) acc (by omega) (by omega)
    | some y =>
      dsimp only [id]
      rw [if_pos (by simp; omega), comp_zipS hnx hl hb hs m (i + 1) (acc ++ [y]) (by omega) (by simp; omega), List.append_assoc]
      rfl
theorem comp_zip {bd : A → AH → R (Option A)} {xs : List A} {ys : List (Option A)} {h : AH} (hl : ys.length = xs.length) (hb : ∀ (j : Nat) (x : A) (y : Option A), xs[j]? = some x → ys[j]? = some y → bd x h = .ok y h) (hs : xs.length ≤ 100000) : compL (seqN xs) bd (xs.length + 1) 0 [] h = .ok (ys.filterMap id) h := by
  have := comp_zipS (nx := seqN xs) (fun _ => rfl) hl hb hs xs.length 0 [] (by omega) (by simp)
  simpa using this
theorem comp_zipN {nx : Nat → AH → Option (Option A)} {bd : A → AH → R (Option A)} {xs : List A} {ys : List (Option A)} {h : AH} (hnx : ∀ i, nx i h = some xs[i]?) (hl : ys.length = xs.length) (hb : ∀ (j : Nat) (x : A) (y : Option A), xs[j]? = some x → ys[j]? = some y → bd x h = .ok y h) (hs : xs.length ≤ 100000) : compL nx bd (xs.length + 1) 0 [] h = .ok (ys.filterMap id) h := by
  have := comp_zipS hnx hl hb hs xs.length 0 [] (by omega) (by simp)
  simpa using this
theorem nthA_at {h : AH} {l : Nat} {xs : List A} (e : h[l]? = some (.lst xs)) (i : Nat) : nthA h (.loc l) i = some xs[i]? := by simp only [nthA, listAt, e]
/-- .. over places of calls -/
theorem comp_cals {bd : A → AH → R (Option A)} {ls : List Nat} {cs : List Cal} (G : Cal → Option A) {h : AH} (hl : ls.length = cs.length) (hb : ∀ (j l : Nat) (c : Cal), ls[j]? = some l → cs[j]? = some c → bd (.loc l) h = .ok (G c) h) (hs : ls.length ≤ 100000) : compL (seqN (ls.map A.loc)) bd ((ls.map A.loc).length + 1) 0 [] h = .ok (cs.filterMap G) h := by
  have := comp_zip (bd := bd) (xs := ls.map A.loc) (ys := cs.map G) (h := h) (by simp [hl]) (fun j x y h1 h2 => by
    rw [List.getElem?_map] at h1 h2
    obtain ⟨l, e1, rfl⟩ := Option.map_eq_some_iff.mp h1
    obtain ⟨c, e2, rfl⟩ := Option.map_eq_some_iff.mp h2
    exact hb j l c e1 e2) (by simpa using hs)
  rw [this, List.filterMap_map]
  rfl
section
variable {Pg : Prog} {h : AH} {L : Lay} {st : CS}
theorem RepO.pick (R : RepO h L st) {j : Nat} (hj : j < st.calls.length) : ∃ l d, L.ls[j]? = some l ∧ st.calls[j]? = some d ∧ h[l]? = some (.dic false (calD d)) := by
  have hl : j < L.ls.length := by rw [R.len]; exact hj
  exact ⟨_, _, List.getElem?_eq_getElem hl, List.getElem?_eq_getElem hj, R.at_ j _ _ (List.getElem?_eq_getElem hl) (List.getElem?_eq_getElem hj)⟩
theorem at_ls (R : RepO h L st) {i l : Nat} (hl : L.ls[i]? = some l) : L2.atI (L.ls.map A.loc) (i : Int) = some (.loc l) := L2.atI_nat (by rw [List.getElem?_map, hl]; rfl)
theorem s_may [POwn Pg] (n : Nat) (R : RepO h L st) (hn : st.calls.length ≤ 30) (G : RoadsOk st.roads) {i : Nat} {c : Cal} (hc : st.calls[i]? = some c) (hg : (getL c.goal st.roads).isSome = true) : callF Pg (n + 2) "_law_may" [.loc L.c, numA i] h = .ok (.bl (dueB st i c)) h := by
  rw [c__law_may]
  obtain ⟨l, e1, e2, m, nc, nr, nk, nw⟩ := R.call hc
  have hi : i < st.calls.length := (List.getElem?_eq_some_iff.mp hc).1
  have a0 := at_ls R e1
  have rl := s_real (Pg := Pg) n R G hg
  have ok := R.ok
  have cut : cutA (L.ls.map A.loc) none (some (i : Int)) = (L.ls.take i).map A.loc := by
    have hl : i ≤ L.ls.length := by rw [R.len]; omega
    unfold cutA
    rw [HT.sIx_none, HT.sIx_nat, List.length_map, Nat.min_eq_left hl, List.drop_zero, Nat.sub_zero, List.map_take]
  have sl : slA h (.loc L.k) none (some (i : Int)) = some (.lst ((L.ls.take i).map A.loc)) := by
    simp only [slA, ok, cut]
  let WL : List Str := (st.calls.take i).filterMap fun d => if d.key = c.key then some d.word else none
  have k2 : ∀ s : ASt, s[2]? = some (some (.loc l)) → s.length = 8 → compL (seqN ((L.ls.take i).map A.loc)) (compB Pg (callF Pg (n + 1)) (.ix (.var 5) (.con (.str "word"))) (.nm 5) (.cons (.cmp .Eq (.ix (.var 5) (.con (.str "key"))) (.ix (.var 2) (.con (.str "key")))) .nil) [7, 5] s) (((L.ls.take i).map A.loc).length + 1) 0 [] h = .ok (WL.map A.str) h := fun s s2 sl => by
    have := comp_cals (bd := compB Pg (callF Pg (n + 1)) (.ix (.var 5) (.con (.str "word"))) (.nm 5) (.cons (.cmp .Eq (.ix (.var 5) (.con (.str "key"))) (.ix (.var 2) (.con (.str "key")))) .nil) [7, 5] s) (ls := L.ls.take i) (cs := st.calls.take i) (fun d => if d.key = c.key then some (.str d.word) else none) (h := h) (by simp [R.len]) (fun j l' d q1 q2 => by
      have hj : j < i := by have := (List.getElem?_eq_some_iff.mp q1).1; simp at this; omega
      rw [List.getElem?_take_of_lt hj] at q1 q2
      have q3 := R.at_ j l' d q1 q2
      simp only [calD] at q3 e2
      have h5 : 5 < s.length := by omega
      by_cases ek : d.key = c.key <;> simp [List.getElem?_set, h5, s2, q3, e2, ek]) (by simp; have := R.len; omega)
    rw [this]
    congr 1
    simp only [WL, List.map_filterMap]
    refine fm_congr fun d _ => ?_
    by_cases ek : d.key = c.key <;> simp [ek]
  have k3 : ∀ s : ASt, s.length = 8 → compL (seqN (WL.map A.str)) (compB Pg (callF Pg (n + 1)) (.var 6) (.nm 6) (.cons (.cmp .NotIn (.var 6) (.tup (.cons (.con (.str "done")) (.cons (.con (.str "gone")) .nil)))) .nil) [7, 6] s) ((WL.map A.str).length + 1) 0 [] h = .ok ((WL.filter fun w => !isEnd w).map A.str) h := fun s sl => by
    have lw : WL.length ≤ 100000 := by
      have := List.length_filterMap_le (fun d : Cal => if d.key = c.key then some d.word else none) (st.calls.take i)
      simp at this
      simp only [WL]
      omega
    have := comp_zip (bd := compB Pg (callF Pg (n + 1)) (.var 6) (.nm 6) (.cons (.cmp .NotIn (.var 6) (.tup (.cons (.con (.str "done")) (.cons (.con (.str "gone")) .nil)))) .nil) [7, 6] s) (xs := WL.map A.str) (ys := WL.map fun w => if isEnd w then none else some (.str w)) (h := h) (by simp) (fun j x y h1 h2 => by
      rw [List.getElem?_map] at h1 h2
      obtain ⟨w, g1, rfl⟩ := Option.map_eq_some_iff.mp h1
      obtain ⟨w', g2, rfl⟩ := Option.map_eq_some_iff.mp h2
      rw [g1] at g2
      cases g2
      have h6 : 6 < s.length := by omega
      have il := inLs2 w "done" "gone"
      have il2 : (decide (w = "done") || decide (w = "gone")) = isEnd w := rfl
      rw [il2] at il
      cases ew : isEnd w <;> rw [ew] at il <;> simp [List.getElem?_set, h6, il]) (by simpa using lw)
    rw [this, List.filterMap_map]
    congr 1
    generalize WL = ws
    induction ws with
    | nil => rfl
    | cons w ws ih =>
      rw [List.filterMap_cons, List.filter_cons]
      cases ew : isEnd w <;> simp [ew] <;> simpa using ih
  have fw : (WL.filter fun w => !isEnd w).length = 0 ↔ isFirst st i c.key = true := by
    rw [List.length_eq_zero_iff, List.filter_eq_nil_iff]
    unfold isFirst
    rw [List.all_eq_true]
    constructor
    · intro q d hd
      by_cases ek : d.key = c.key
      · have := q d.word (List.mem_filterMap.mpr ⟨d, hd, by simp [ek]⟩)
        simpa [ek] using this
      · simp [ek]
    · intro q w hw
      obtain ⟨d, hd, e⟩ := List.mem_filterMap.mp hw
      by_cases ek : d.key = c.key
      · simp [ek] at e
        have := q d hd
        rw [← e]
        simpa [ek] using this
      · simp [ek] at e
  have k5 : ∀ s : ASt, s[4]? = some (some (.str (endOf st c.goal))) → s.length = 8 → ∃ BL, compL (fun i h => nthA h (.loc L.k) i) (compB Pg (callF Pg (n + 1)) (.var 5) (.nm 5) (.cons (.and (.cmp .Eq (.ix (.var 5) (.con (.str "word"))) (.con (.str "tried"))) (.cmp .Eq (.ix (.var 5) (.con (.str "place"))) (.var 4))) .nil) [7, 5] s) ((L.ls.map A.loc).length + 1) 0 [] h = .ok BL h ∧ BL.length = busy st (endOf st c.goal) := fun s s4 sl => by
    refine ⟨_, comp_zipN (nthA_at ok) (ys := (L.ls.zip st.calls).map fun p => if busyC (endOf st c.goal) p.2 then some (.loc p.1) else none) (by simp [R.len]) (fun j x y h1 h2 => ?_) (by simp; have := R.len; omega), ?_⟩
    · rw [List.getElem?_map] at h1 h2
      obtain ⟨l', g1, rfl⟩ := Option.map_eq_some_iff.mp h1
      obtain ⟨⟨l2, d⟩, g2, rfl⟩ := Option.map_eq_some_iff.mp h2
      obtain ⟨g3, g4⟩ := List.getElem?_zip_eq_some.mp g2
      rw [g1] at g3
      cases g3
      have q3 := R.at_ j l2 d g1 g4
      simp only [calD] at q3
      have h5 : 5 < s.length := by omega
      by_cases w1 : d.word = "tried"
      · by_cases w2 : d.place = endOf st c.goal <;> simp [List.getElem?_set, h5, s4, q3, w1, w2, busyC]
      · simp [List.getElem?_set, h5, s4, q3, w1, busyC]
    · have go : ∀ (ls : List Nat) (cs : List Cal) (g : Str), ls.length = cs.length → (((ls.zip cs).map fun p => if busyC g p.2 then some (A.loc p.1) else none).filterMap id).length = (cs.filter (busyC g)).length := by
        intro ls
        induction ls with
        | nil => intro cs g e; cases cs with | nil => rfl | cons _ _ => simp at e
        | cons l ls ih =>
          intro cs g e
          cases cs with
          | nil => simp at e
          | cons d cs =>
            have r := ih cs g (by simpa using e)
            rw [List.zip_cons_cons, List.map_cons, List.filterMap_cons, List.filter_cons]
            cases eb : busyC g d
            · simpa [eb] using r
            · simp only [if_true, id, List.length_cons]
              rw [r]
      exact go L.ls st.calls _ R.len
  simp only [f__law_may, numA]
  have es : ((i : Int) + 1 - 1) = i := by omega
  simp only [calD] at e2
  by_cases w1 : c.word = "waits"
  · by_cases w2 : c.time ≤ st.clock
    · have w2' : ¬ st.clock < c.time := by omega
      have K2 := k2 [some (.loc L.c), some (.int ((i : Int) + 1)), some (.loc l), none, none, none, none, none] rfl rfl
      have K3 := k3 [some (.loc L.c), some (.int ((i : Int) + 1)), some (.loc l), some (.lst (WL.map A.str)), none, none, none, none] rfl
      obtain ⟨BL, K5, K6⟩ := k5 [some (.loc L.c), some (.int ((i : Int) + 1)), some (.loc l), some (.lst (WL.map A.str)), some (.str (endOf st c.goal)), none, none, none] rfl rfl
      have lf : ((WL.filter fun w => !isEnd w).map A.str).length = (WL.filter fun w => !isEnd w).length := List.length_map ..
      generalize (WL.filter fun w => !isEnd w).map A.str = FL at K3 lf
      generalize WL.map A.str = SL at K2 K3 K5
      generalize (L.ls.take i).map A.loc = TL at sl K2
      generalize L.ls.map A.loc = AL at ok a0 K5
      by_cases w3 : isFirst st i c.key = true
      · have z : FL.length = 0 := by rw [lf]; exact fw.mpr w3
        simp [R.oc, ok, es, a0, e2, w1, w2', partA, sl, K2, newL, K3, z, rl, K5, K6, dueB, w2, w3]
      · have z : 0 < FL.length := by
          rcases Nat.eq_zero_or_pos FL.length with q | q
          · exact absurd (fw.mp (by rw [← lf]; exact q)) w3
          · exact q
        have z' : (0 : Int) < FL.length := by omega
        simp [R.oc, ok, es, a0, e2, w1, w2', partA, sl, K2, newL, K3, z, dueB, w3]
    · have w2' : st.clock < c.time := by omega
      generalize L.ls.map A.loc = AL at ok a0
      simp [R.oc, ok, es, a0, e2, w1, w2', dueB, w2]
  · generalize L.ls.map A.loc = AL at ok a0
    simp [R.oc, ok, es, a0, e2, w1, dueB]
end
end MC

namespace MC
open PySem L2 MI MT
section
variable {Pg : Prog} {h : AH} {L : Lay} {st : CS}
theorem s_ldue [POwn Pg] (n : Nat) (R : RepO h L st) (hn : st.calls.length ≤ 30) (G : RoadsOk st.roads) (hg : ∀ c ∈ st.calls, (getL c.goal st.roads).isSome = true) : callF Pg (n + 3) "_law_due" [.loc L.c] h = .ok (.lst ((dueL st).map numA)) h := by
  rw [c__law_due]
  have ln : (L.ls.map A.loc).length = st.calls.length := by simp [R.len]
  have ok := R.ok
  generalize L.ls.map A.loc = AL at ok ln
  have ei : evI Pg (callF Pg (n + 2)) (.rng2 (.con (.int 1)) (.bin .Add (.bi .len (.cons (.ix (.var 0) (.con (.str "calls"))) .nil)) (.con (.int 1)))) [some (.loc L.c), none, none] h = .ok ⟨rngN 1 st.calls.length, st.calls.length + 1, none⟩ h :=
    ev_rng2 (h1 := h) (i := 1) (j := (st.calls.length : Int) + 1) st.calls.length (by simp) (by simp [R.oc, ok, ln]) (by omega) (by omega) (by omega) (by omega)
  have k : compL (rngN 1 st.calls.length) (compB Pg (callF Pg (n + 2)) (.var 1) (.nm 1) (.cons (.call "_law_may" (.cons (.var 0) (.cons (.var 1) .nil))) .nil) [2, 1] [some (.loc L.c), none, none]) (st.calls.length + 1) 0 [] h = .ok ((List.range st.calls.length).filterMap fun j => if dueAt st j then some (numA j) else none) h := by
    refine comp_rng _ (fun j hj => ?_) (by omega)
    obtain ⟨l, d, q1, q2, q3⟩ := R.pick hj
    have my := s_may (Pg := Pg) n R hn G q2 (hg d (List.mem_of_getElem? q2))
    have eg : dueAt st j = dueB st j d := by simp [dueAt, q2]
    have en : A.int (1 + (j : Int)) = numA j := by unfold numA; congr 1; omega
    rw [en, eg]
    generalize numA j = nj at my
    cases ed : dueB st j d <;> rw [ed] at my <;> simp [my]
  have ef : ((List.range st.calls.length).filterMap fun j => if dueAt st j then some (numA j) else none) = (dueL st).map numA := by
    unfold dueL
    generalize List.range st.calls.length = xs
    induction xs with
    | nil => rfl
    | cons x xs ih =>
      rw [List.filterMap_cons, List.filter_cons]
      cases dueAt st x <;> simp [ih]
  rw [ef] at k
  generalize (dueL st).map numA = DL at k
  simp only [f__law_due]
  rw [runFn_eq]
  simp only [evSs_cons, evS_ret, evE_comp, startA_eq, List.map_cons, List.map_nil, List.length_cons, List.length_nil, List.replicate, List.cons_append, List.nil_append]
  simp [ei, k, newL]
end
end MC

namespace MC
open PySem L2 MI MT
section
variable {Pg : Prog} {h : AH} {L : Lay} {st : CS}
theorem RepO.say (R : RepO h L st) (num : Int) (w : Str) : RepO (h.set L.w (.lst ((st.rows ++ [(st.clock, num, w)]).map rowA))) L (st.say num w) := R.setRows _
theorem s_lfail [POwn Pg] (n : Nat) (R : RepO h L st) (rl : st.ru.ok) {i : Nat} {c : Cal} (hc : st.calls[i]? = some c) (hf : 0 ≤ c.fails ∧ c.fails < st.ru.r3) (hr : st.rows.length ≤ 90000) :
    ∃ h', callF Pg (n + 2) "_law_fail" [.loc L.c, .int ((i : Int) + 1)] h = .ok .non h' ∧ RepO h' L (failS st i c) ∧ Fr L.F h h' ∧ h'.length = h.length := by
  rw [c__law_fail]
  obtain ⟨l, e1, e2, m, nc, nr, nk, nw⟩ := R.call hc
  have hl := lt_of_get e2
  have hw := lt_of_get R.ow
  have a0 := at_ls R e1
  have es : ((i : Int) + 1 - 1) = i := by omega
  have fl : L.F l := .inr (.inr (.inr (.inr m)))
  have fw : L.F L.w := .inr (.inr (.inr (.inl rfl)))
  have gc : ∀ x, (h.set l x)[L.c]? = _ := fun x => (List.getElem?_set_ne nc.symm).trans R.oc
  have gw : ∀ x, (h.set l x)[L.w]? = _ := fun x => (List.getElem?_set_ne nw.symm).trans R.ow
  have gl : ∀ x, (h.set l x)[l]? = some x := fun x => List.getElem?_set_self hl
  have gl2 : ∀ x y, ((h.set l x).set L.w y)[l]? = some x := fun x y => (List.getElem?_set_ne nw).trans (gl x)
  have gc2 : ∀ x y, ((h.set l x).set L.w y)[L.c]? = _ := fun x y => (List.getElem?_set_ne R.cw.symm).trans (gc x)
  have ok := R.ok
  have lr : (st.rows.map rowA).length ≤ 100000 := by simp; omega
  have lc : ∀ a b c d e f g k, (cdD a b c d e f g k).length ≤ 100000 := fun a b c d e f g k => by rw [cdD_len]; decide
  generalize L.ls.map A.loc = AL at ok a0
  have R' := R.setCall (failC st c) e1
  refine ⟨_, ?_, R'.say _ (failW st c), (Fr.set h _ fl).trans (Fr.set _ _ fw), by simp⟩
  have er : (st.rows ++ [(st.clock, (i : Int) + 1, failW st c)]).map rowA = st.rows.map rowA ++ [.tup [.int st.clock, .int ((i : Int) + 1), .str (failW st c)]] := by simp [rowA]
  show _ = MI.R.ok A.non ((h.set l _).set L.w (.lst ((st.rows ++ [(st.clock, (i : Int) + 1, failW st c)]).map rowA)))
  rw [er]
  generalize st.rows.map rowA = RL at gw lr
  simp only [calD] at e2 ⊢
  simp only [f__law_fail]
  by_cases q : st.ru.r3 ≤ c.fails + 1
  · have q' : c.fails + 1 = st.ru.r3 := by omega
    have qb : (c.fails + 1 == st.ru.r3) = true := by simpa using q'
    simp [R.oc, ok, es, a0, e2, gl, gc, gw, qb, lc, lr, failC, failW, q, gl2]
  · have qb : (c.fails + 1 == st.ru.r3) = false := by simp; omega
    have r5 := rl.b3
    have wf := fun h => s_law_wait (Pg := Pg) (r := st.ru) rl n (c.fails + 1).toNat (by omega) h
    have tn : (((c.fails + 1).toNat : Nat) : Int) = c.fails + 1 := by omega
    simp only [tn] at wf
    have wf2 : ∀ h, callF Pg (n + 1) "_law_wait" [ruA st.ru, .int (c.fails + 1)] h = .ok (.int (st.ru.wait (c.fails + 1))) h := wf
    have cm : ∀ x y, ((h.set l x).set L.w y).set l = fun z => (h.set l z).set L.w y := fun x y => by
      funext z
      rw [List.set_comm _ _ nw, set_id]
    simp [R.oc, ok, es, a0, e2, gl, gc, gw, qb, lc, lr, failC, failW, q, gl2, gc2, wf2, cm]
theorem eq_nilL {h : AH} (xs : List A) : eqA h (.lst xs) (.lst []) = some xs.isEmpty := by
  show eqL h (.lst xs) (.lst []) = _
  unfold eqL
  cases xs with
  | nil =>
    show (if ([] : List A).length = ([] : List A).length then eqD h (.lst []) (.lst []) else some false) = _
    rw [if_pos rfl]
    exact eqD_data (d := .list []) (e := .list []) rfl rfl (by decide) (by decide)
  | cons x xs => rfl
theorem mark_str {i : Nat} (hi : i ≤ 30) : ∃ ms, markOf i = Str.ofString "m" ++ ms ∧ (Str.ofString "m").length + ms.length ≤ 100000 ∧ ∀ h : AH, biOp h .str [.int ((i : Int) + 1)] = some (.str ms) := by
  refine ⟨Str.ofString (toString ((i : Int) + 1)), rfl, ?_, fun h => ?_⟩
  · have hm := mark_len i (by omega)
    have : (markOf i).length = (Str.ofString "m").length + (Str.ofString (toString ((i : Int) + 1))).length := by
      show ((Str.ofString "m").cps ++ (Str.ofString (toString ((i : Int) + 1))).cps).size = _
      simp [Str.length]
    omega
  · have big : (i : Int).natAbs + 1 < 2 ^ 1000 := Nat.lt_of_lt_of_le (show (i : Int).natAbs + 1 < 2 ^ 20 by omega) (Nat.pow_le_pow_right (by decide) (by decide))
    have big2 : ((i : Int) + 1).natAbs < 2 ^ 1000 := by omega
    simp only [biOp, decide_eq_true big2, if_true]
theorem s_ltry [POwn Pg] (n : Nat) (R : RepO h L st) (hn : st.calls.length ≤ 30) (G : RoadsOk st.roads) (hg : ∀ c ∈ st.calls, (getL c.goal st.roads).isSome = true) (hr : st.rows.length ≤ 90000) :
    ∃ h', callF Pg (n + 4) "_law_try" [.loc L.c] h = .ok (tryS st).1 h' ∧ RepO h' L (tryS st).2 ∧ Fr L.F h h' := by
  rw [c__law_try]
  have du := s_ldue (Pg := Pg) n R hn G hg
  have en := eq_nilL (h := h) ((dueL st).map numA)
  unfold tryS
  cases ed : dueL st with
  | nil =>
    rw [ed] at du en
    refine ⟨h, ?_, R, Fr.refl _ _⟩
    simp at du en
    simp [f__law_try, du, en]
  | cons i r =>
    obtain ⟨c, hc, _⟩ := dueL_mem (st := st) (i := i) (by rw [ed]; exact List.mem_cons_self)
    have hi : i < st.calls.length := (List.getElem?_eq_some_iff.mp hc).1
    obtain ⟨l, e1, e2, m, nc, nr, nk, nw⟩ := R.call hc
    have hl := lt_of_get e2
    have a0 := at_ls R e1
    have es : ((i : Int) + 1 - 1) = i := by omega
    have fl : L.F l := .inr (.inr (.inr (.inr m)))
    have fw : L.F L.w := .inr (.inr (.inr (.inl rfl)))
    have gc : ∀ x, (h.set l x)[L.c]? = _ := fun x => (List.getElem?_set_ne nc.symm).trans R.oc
    have gw : ∀ x, (h.set l x)[L.w]? = _ := fun x => (List.getElem?_set_ne nw.symm).trans R.ow
    have gl : ∀ x, (h.set l x)[l]? = some x := fun x => List.getElem?_set_self hl
    have gl2 : ∀ x y, ((h.set l x).set L.w y)[l]? = some x := fun x y => (List.getElem?_set_ne nw).trans (gl x)
    have ok := R.ok
    have lr : (st.rows.map rowA).length ≤ 100000 := by simp; omega
    have lc : ∀ a b c d e f g k, (cdD a b c d e f g k).length ≤ 100000 := fun a b c d e f g k => by rw [cdD_len]; decide
    have rl := s_real (Pg := Pg) (n + 2) R G (hg c (List.mem_of_getElem? hc))
    obtain ⟨ms, hmk, lm, bs⟩ := mark_str (i := i) (by omega)
    generalize L.ls.map A.loc = AL at ok a0
    have R' := R.setCall (beginC st c) e1
    simp only [hc]
    refine ⟨_, ?_, R'.say _ "tried", (Fr.set h _ fl).trans (Fr.set _ _ fw)⟩
    have er : (st.rows ++ [(st.clock, (i : Int) + 1, Str.ofString "tried")]).map rowA = st.rows.map rowA ++ [.tup [.int st.clock, .int ((i : Int) + 1), .str "tried"]] := by simp [rowA]
    show _ = MI.R.ok _ ((h.set l _).set L.w (.lst ((st.rows ++ [(st.clock, (i : Int) + 1, Str.ofString "tried")]).map rowA)))
    rw [er]
    rw [ed] at du
    have en : eqA h (.lst ((i :: r).map numA)) (.lst []) = some false := by rw [eq_nilL]; rfl
    have at0 : L2.atI (((i :: r).map numA)) 0 = some (numA i) := L2.atI_nat (j := 0) (by simp)
    generalize (i :: r).map numA = FL at du en at0
    generalize st.rows.map rowA = RL at gw lr
    simp only [calD, beginC] at e2 ⊢
    simp only [f__law_try, numA, outA, hmk] at at0 ⊢
    simp [du, en, at0, R.oc, ok, es, a0, e2, rl, gl, gc, gw, lc, lr, gl2, bs, lm]
end
end MC

namespace MC
open PySem L2 MI MT
def cd7 (x0 x1 x2 x3 x4 x5 x6 : A) : List (Key × A) := [(.inr "key", x0), (.inr "goal", x1), (.inr "place", x2), (.inr "text", x3), (.inr "word", x4), (.inr "fails", x5), (.inr "many", x6)]
theorem mk_cd (x0 x1 x2 x3 x4 x5 x6 : A) : mkDic [(.inr "key", x0), (.inr "goal", x1), (.inr "place", x2), (.inr "text", x3), (.inr "word", x4), (.inr "fails", x5), (.inr "many", x6)] = cd7 x0 x1 x2 x3 x4 x5 x6 := by kernel_rfl
theorem cd7_time (x0 x1 x2 x3 x4 x5 x6 y : A) : putKA (.inr (Str.ofString "time")) y (cd7 x0 x1 x2 x3 x4 x5 x6) = cdD x0 x1 x2 x3 x4 x5 x6 y := by kernel_rfl
theorem cd7_len (x0 x1 x2 x3 x4 x5 x6 : A) : (cd7 x0 x1 x2 x3 x4 x5 x6).length = 7 := rfl
def refA (c : Str) : A := .tup [.str "refused", .str c]
section
variable {Pg : Prog} {h : AH} {L : Lay} {st : CS}
theorem RepO.newCall (R : RepO h L st) (c : Cal) : RepO ((h ++ [AO.dic false (calD c)]).set L.k (.lst ((L.ls ++ [h.length]).map A.loc))) (L.more h.length) { st with calls := st.calls ++ [c] } := by
  have lt := R.lt
  have ne : ∀ x, L.F x → x ≠ h.length := fun x hx => Nat.ne_of_lt (lt x hx)
  have ap : ∀ {l : Nat} {x : AO}, h[l]? = some x → L.k ≠ l → ((h ++ [AO.dic false (calD c)]).set L.k (.lst ((L.ls ++ [h.length]).map A.loc)))[l]? = some x := fun e hn => by
    rw [List.getElem?_set_ne hn]
    exact get_app e
  have hk := lt_of_get R.ok
  refine ⟨ap R.oc R.ck.symm, ap R.or_ R.rk.symm, ?_, ap R.ow R.kw, ?_, ?_, R.cr, R.ck, R.cw, R.rk, R.rw_, R.kw, ?_, ?_, ?_, ?_, ?_⟩
  · show ((h ++ [AO.dic false (calD c)]).set L.k _)[L.k]? = _
    rw [List.getElem?_set_self (by simp; omega)]
    rfl
  · show (L.ls ++ [h.length]).length = (st.calls ++ [c]).length
    simp [R.len]
  · intro i l d h1 h2
    have h1 : (L.ls ++ [h.length])[i]? = some l := h1
    have h2 : (st.calls ++ [c])[i]? = some d := h2
    by_cases hi : i < L.ls.length
    · rw [List.getElem?_append_left hi] at h1
      rw [List.getElem?_append_left (by rw [← R.len]; exact hi)] at h2
      exact ap (R.at_ i l d h1 h2) (fun z => R.lk (by rw [z]; exact List.mem_of_getElem? h1))
    · have hb : i < (L.ls ++ [h.length]).length := (List.getElem?_eq_some_iff.mp h1).1
      have ei : i = L.ls.length := by simp at hb; omega
      subst ei
      rw [List.getElem?_append_right (Nat.le_refl _)] at h1
      rw [R.len, List.getElem?_append_right (Nat.le_refl _)] at h2
      simp at h1 h2
      subst h1 h2
      rw [List.getElem?_set_ne (Nat.ne_of_lt hk)]
      simp
  · intro hm
    rcases List.mem_append.mp (show L.c ∈ L.ls ++ [h.length] from hm) with z | z
    · exact R.lc z
    · exact ne _ (.inl rfl) (List.mem_singleton.mp z)
  · intro hm
    rcases List.mem_append.mp (show L.r ∈ L.ls ++ [h.length] from hm) with z | z
    · exact R.lr z
    · exact ne _ (.inr (.inl rfl)) (List.mem_singleton.mp z)
  · intro hm
    rcases List.mem_append.mp (show L.k ∈ L.ls ++ [h.length] from hm) with z | z
    · exact R.lk z
    · exact ne _ (.inr (.inr (.inl rfl))) (List.mem_singleton.mp z)
  · intro hm
    rcases List.mem_append.mp (show L.w ∈ L.ls ++ [h.length] from hm) with z | z
    · exact R.lw z
    · exact ne _ (.inr (.inr (.inr (.inl rfl)))) (List.mem_singleton.mp z)
  · show (L.ls ++ [h.length]).Nodup
    rw [List.nodup_append]
    refine ⟨R.nd, by simp, fun a ha b hb => ?_⟩
    rw [List.mem_singleton.mp hb]
    exact ne a (.inr (.inr (.inr (.inr ha))))
theorem s_lsend_addr [POwn Pg] (n : Nat) (R : RepO h L st) {goal : Str} (key text : A) (o2 : getL goal st.roads = none) : callF Pg (n + 1) "_law_send" [.loc L.c, key, .str goal, text] h = .ok (refA "BadName") h := by
  rw [c__law_send]
  simp [f__law_send, R.oc, R.or_, getK_dm, o2, refA]
theorem s_lsend_full [POwn Pg] (n : Nat) (R : RepO h L st) {goal : Str} (key text : A) (o2 : (getL goal st.roads).isSome = true) (hn : st.calls.length = 30) : callF Pg (n + 1) "_law_send" [.loc L.c, key, .str goal, text] h = .ok (refA "Full") h := by
  rw [c__law_send]
  have ok := R.ok
  have ln : (L.ls.map A.loc).length = 30 := by simp [R.len, hn]
  generalize L.ls.map A.loc = AL at ok ln
  simp [f__law_send, R.oc, R.or_, ok, getK_dm, o2, refA, ln]
theorem s_lsend [POwn Pg] (n : Nat) (R : RepO h L st) {key goal text : Str} (o2 : (getL goal st.roads).isSome = true) (hn : st.calls.length < 30) (hr : st.rows.length ≤ 90000) :
    ∃ h', callF Pg (n + 1) "_law_send" [.loc L.c, .str key, .str goal, .str text] h = .ok (.int ((st.calls.length : Int) + 1)) h' ∧ RepO h' (L.more h.length) (sendS st key goal text) ∧ Fr L.F h h' ∧ h.length < h'.length := by
  rw [c__law_send]
  have R1 := R.newCall (newC st key goal text)
  have R2 := R1.say ((st.calls.length : Int) + 1) "sent"
  have fk : L.F L.k := .inr (.inr (.inl rfl))
  have fw : L.F L.w := .inr (.inr (.inr (.inl rfl)))
  refine ⟨_, ?_, R2, ((Fr.app L.F h [.dic false (calD (newC st key goal text))]).trans (Fr.set _ _ fk)).trans (Fr.set _ _ fw), by simp⟩
  have ok := R.ok
  have ln : (L.ls.map A.loc).length = st.calls.length := by simp [R.len]
  have el : (L.ls ++ [h.length]).map A.loc = L.ls.map A.loc ++ [.loc h.length] := by simp
  have er : (st.rows ++ [(st.clock, (st.calls.length : Int) + 1, Str.ofString "sent")]).map rowA = st.rows.map rowA ++ [.tup [.int st.clock, .int ((st.calls.length : Int) + 1), .str "sent"]] := by simp [rowA]
  have lr : (st.rows.map rowA).length ≤ 100000 := by simp; omega
  have ow := R.ow
  show _ = MI.R.ok _ ((((h ++ [AO.dic false (calD (newC st key goal text))]).set L.k (.lst ((L.ls ++ [h.length]).map A.loc)))).set L.w (.lst ((st.rows ++ [(st.clock, (st.calls.length : Int) + 1, Str.ofString "sent")]).map rowA)))
  rw [el, er]
  generalize L.ls.map A.loc = AL at ok ln
  generalize st.rows.map rowA = RL at ow lr
  have q5 : ((st.calls.length : Int) == 30) = false := by simp; omega
  have gc : ∀ g : AH, (h ++ g)[L.c]? = _ := fun g => get_app R.oc
  have gk : ∀ g : AH, (h ++ g)[L.k]? = _ := fun g => get_app ok
  have gw : ∀ g : AH, (h ++ g)[L.w]? = _ := fun g => get_app ow
  have hk : L.k < h.length := lt_of_get ok
  have gc2 : ∀ (g : AH) x, ((h ++ g).set L.k x)[L.c]? = _ := fun g x => (List.getElem?_set_ne R.ck.symm).trans (gc g)
  have gw2 : ∀ (g : AH) x, ((h ++ g).set L.k x)[L.w]? = _ := fun g x => (List.getElem?_set_ne R.kw).trans (gw g)
  have gk2 : ∀ (g : AH) x, ((h ++ g).set L.k x)[L.k]? = some x := fun g x => List.getElem?_set_self (by simp; omega)
  have gc3 : ∀ (g : AH) x y, (((h ++ g).set L.k x).set L.w y)[L.c]? = _ := fun g x y => (List.getElem?_set_ne R.cw.symm).trans (gc2 g x)
  have gk3 : ∀ (g : AH) x y, (((h ++ g).set L.k x).set L.w y)[L.k]? = some x := fun g x y => (List.getElem?_set_ne R.kw.symm).trans (gk2 g x)
  have la : AL.length ≤ 100000 := by omega
  have la2 : st.calls.length ≤ 100000 := by omega
  simp only [calD, newC] at ⊢
  simp only [f__law_send]
  simp [R.oc, R.or_, ok, getK_dm, o2, ln, q5, dicPut, pairsA, mk_cd, cd7_len, cd7_time, gc, gk, gw, gc2, gw2, gk2, gc3, gk3, la, la2, lr]
end
end MC

namespace MC
open PySem L2 MI MT
def overC (st : CS) (c : Cal) : Bool := decide (c.word = "tried") && decide (st.ru.r4 ≤ st.clock - c.time)
def tickC (st : CS) (c : Cal) : Cal := if overC st c then failC st c else c
def tickW (st : CS) (i : Nat) : Option (Int × Int × Str) := match st.calls[i]? with | some c => if overC st c then some (st.clock, (i : Int) + 1, failW st c) else none | none => none
theorem overC_iff (st : CS) (c : Cal) : overC st c = true ↔ c.word = "tried" ∧ st.ru.r4 ≤ st.clock - c.time := by simp [overC]
theorem runT_calls (st : CS) : ∀ j, j ≤ st.calls.length → (runT st j).calls = (st.calls.take j).map (tickC st) ++ st.calls.drop j ∧ (runT st j).ru = st.ru ∧ (runT st j).clock = st.clock ∧ (runT st j).roads = st.roads ∧ (runT st j).rows = st.rows ++ (List.range j).filterMap (tickW st)
  | 0, _ => by simp [runT]
  | j + 1, hj => by
    obtain ⟨a1, a2, a3, a4, a5⟩ := runT_calls st j (by omega)
    have hj' : j < st.calls.length := by omega
    have lt : ((st.calls.take j).map (tickC st)).length = j := by simp; omega
    have cj : (runT st j).calls[j]? = some st.calls[j] := by
      rw [a1, List.getElem?_append_right (by omega), lt, Nat.sub_self, List.getElem?_drop]
      simp [hj']
    have hg : st.calls[j]? = some st.calls[j] := List.getElem?_eq_getElem hj'
    have ed : st.calls.drop j = st.calls[j] :: st.calls.drop (j + 1) := (List.getElem_cons_drop hj').symm
    have et : st.calls.take (j + 1) = st.calls.take j ++ [st.calls[j]] := List.take_succ_eq_append_getElem hj'
    rw [runT_succ]
    have es : stepT (runT st j) j = if overC st st.calls[j] then failS (runT st j) j st.calls[j] else runT st j := by
      unfold stepT
      rw [cj]
      simp only [a2, a3]
      by_cases q : overC st st.calls[j] = true
      · rw [if_pos q, if_pos ((overC_iff _ _).mp q)]
      · rw [if_neg q, if_neg (fun z => q ((overC_iff _ _).mpr z))]
    have ef : failC (runT st j) st.calls[j] = failC st st.calls[j] ∧ failW (runT st j) st.calls[j] = failW st st.calls[j] := by
      unfold failC failW
      rw [a2, a3]
      exact ⟨rfl, rfl⟩
    rw [es, List.range_succ, List.filterMap_append]
    by_cases q : overC st st.calls[j] = true
    · rw [if_pos q]
      refine ⟨?_, a2, a3, a4, ?_⟩
      · show (runT st j).calls.set j (failC (runT st j) st.calls[j]) = _
        rw [ef.1, a1, List.set_append_right _ _ (by omega), lt, Nat.sub_self, ed, List.set_cons_zero, et, List.map_append, List.append_assoc]
        simp [tickC, q]
      · show (runT st j).rows ++ [((runT st j).clock, (j : Int) + 1, failW (runT st j) st.calls[j])] = _
        rw [a5, a3, ef.2, List.append_assoc]
        simp [tickW, hg, q]
    · rw [if_neg q]
      refine ⟨?_, a2, a3, a4, ?_⟩
      · rw [a1, ed, et, List.map_append, List.append_assoc]
        simp [tickC, q]
      · rw [a5]
        simp [tickW, hg, q]
theorem tick1_eq (st : CS) : tick1 st = ⟨st.ru, st.clock + 1, st.roads, st.calls.map (tickC { st with clock := st.clock + 1 }), st.rows ++ (List.range st.calls.length).filterMap (tickW { st with clock := st.clock + 1 })⟩ := by
  obtain ⟨a1, a2, a3, a4, a5⟩ := runT_calls { st with clock := st.clock + 1 } st.calls.length (Nat.le_refl _)
  unfold tick1
  generalize runT { st with clock := st.clock + 1 } st.calls.length = x at a1 a2 a3 a4 a5
  obtain ⟨x1, x2, x3, x4, x5⟩ := x
  simp only at a1 a2 a3 a4 a5
  subst a1 a2 a3 a4 a5
  simp
section
variable {Pg : Prog} {h : AH} {L : Lay} {st : CS}
/-- no call is over by more -/
def JustOk (st : CS) : Prop := ∀ c ∈ st.calls, c.word = "tried" → st.clock - c.time ≤ st.ru.r4
theorem JustOk.step {st : CS} (T : JustOk st) (i : Nat) : JustOk (stepT st i) := by
  unfold stepT
  split
  · rename_i c hc
    split
    · intro d hd hw
      rcases List.mem_or_eq_of_mem_set (show d ∈ st.calls.set i (failC st c) from hd) with e | e
      · exact T d e hw
      · rw [e] at hw
        exact absurd hw (fail_word st c)
    · exact T
  · exact T
theorem JustOk.run {st : CS} (T : JustOk st) : ∀ j, JustOk (runT st j)
  | 0 => T
  | j + 1 => by rw [runT_succ]; exact (JustOk.run T j).step j
theorem RepO.pick1 (R : RepO h L st) {j : Nat} (hj : j < st.calls.length) : ∃ l d, L.ls[j]? = some l ∧ st.calls[j]? = some d ∧ h[l]? = some (.dic false (calD d)) := by
  have hl : j < L.ls.length := by rw [R.len]; exact hj
  exact ⟨_, _, List.getElem?_eq_getElem hl, List.getElem?_eq_getElem hj, R.at_ j _ _ (List.getElem?_eq_getElem hl) (List.getElem?_eq_getElem hj)⟩
def lb : Ss := bodyS (nthS 0 f__law_tick.body)
def lcS : Ss := bodyS (nthS 1 lb)
theorem lb_1 : nthS 1 lb = .fo (.nm 3) (.rng2 (.con (.int 1)) (.bin .Add (.bi .len (.cons (.ix (.var 0) (.con (.str "calls"))) .nil)) (.con (.int 1)))) lcS := rfl
theorem s_ltickIn [POwn Pg] (n : Nat) (R : RepO h L st) (rl : st.ru.ok) (hn : st.calls.length ≤ 30) (T : TriedOk st) (J : JustOk st) (hp : phi st ≤ 90000) {s : ASt} (sl : s.length = 5) (s0 : s[0]? = some (some (.loc L.c))) :
    ∃ s' h', evS Pg (callF Pg (n + 2)) (nthS 1 lb) s h = .nx s' h' ∧ s'.length = 5 ∧ s'[0]? = some (some (.loc L.c)) ∧ RepO h' L (runT st st.calls.length) ∧ Fr L.F h h' ∧ h'.length = h.length := by
  have ln : (L.ls.map A.loc).length = st.calls.length := by simp [R.len]
  obtain ⟨s', h', e1, i1, i2, i3, i4, i5⟩ := for_range (lo := 1) (n := st.calls.length) (bd := forB Pg (callF Pg (n + 2)) (.nm 3) lcS) (s := s) (h := h)
    (fun j s h' => s.length = 5 ∧ s[0]? = some (some (.loc L.c)) ∧ RepO h' L (runT st j) ∧ Fr L.F h h' ∧ h'.length = h.length) ⟨sl, s0, R, Fr.refl _ _, rfl⟩ (fun j s h1 hj I => by
      obtain ⟨sl, s0, R1, f, hl⟩ := I
      obtain ⟨a1, a2, a3, a4, a5, a6⟩ := runT_ok T j
      have aj := J.run j
      rw [runT_succ]
      obtain ⟨l, d, q1, q2, q3⟩ := R1.pick1 (j := j) (by omega)
      have g0 := at_ls R1 q1
      have ok := R1.ok
      simp only [calD] at q3
      have h3 : 3 < s.length := by omega
      have h4 : 4 < s.length := by omega
      have es : stepT (runT st j) j = if d.word = "tried" ∧ (runT st j).ru.r4 ≤ (runT st j).clock - d.time then failS (runT st j) j d else runT st j := by
        unfold stepT
        rw [q2]
      rw [es]
      generalize runT st j = stj at *
      have ej : (1 + (j : Int) - 1) = j := by omega
      have ec : (1 + (j : Int)) = (j : Int) + 1 := by omega
      generalize L.ls.map A.loc = AL at ok g0
      by_cases w1 : d.word = "tried"
      · have w3 := aj d (List.mem_of_getElem? q2) w1
        by_cases w2 : stj.ru.r4 ≤ stj.clock - d.time
        · obtain ⟨h2, f1, f2, f3, f4⟩ := s_lfail (Pg := Pg) n R1 (by rw [a3]; exact rl) q2 (a1 d (List.mem_of_getElem? q2) w1) (by unfold phi at a2 hp; omega)
          rw [if_pos ⟨w1, w2⟩]
          have w4 : (stj.clock - d.time == stj.ru.r4) = true := by simp; omega
          refine ⟨(s.set 3 (some (.int (1 + (j : Int))))).set 4 (some (.loc l)), h2, .inl ?_, by simp [sl], by simpa [List.getElem?_set] using s0, f2, f.trans f3, by omega⟩
          rw [← ec] at f1
          simp only [forB_eq, evG_nm, toF_ok, lcS, lb, nthS, dropS, tlS, hdS, bodyS, f__law_tick]
          simp [List.getElem?_set, h3, h4, s0, R1.oc, ok, ej, g0, q3, w1, w4, f1]
        · rw [if_neg (fun z => w2 z.2)]
          have w4 : (stj.clock - d.time == stj.ru.r4) = false := by simp; omega
          refine ⟨(s.set 3 (some (.int (1 + (j : Int))))).set 4 (some (.loc l)), h1, .inl ?_, by simp [sl], by simpa [List.getElem?_set] using s0, R1, f, hl⟩
          simp only [forB_eq, evG_nm, toF_ok, lcS, lb, nthS, dropS, tlS, hdS, bodyS, f__law_tick]
          simp [List.getElem?_set, h3, h4, s0, R1.oc, ok, ej, g0, q3, w1, w4]
      · rw [if_neg (fun z => w1 z.1)]
        refine ⟨(s.set 3 (some (.int (1 + (j : Int))))).set 4 (some (.loc l)), h1, .inl ?_, by simp [sl], by simpa [List.getElem?_set] using s0, R1, f, hl⟩
        simp only [forB_eq, evG_nm, toF_ok, lcS, lb, nthS, dropS, tlS, hdS, bodyS, f__law_tick]
        simp [List.getElem?_set, h3, h4, s0, R1.oc, ok, ej, g0, q3, w1])
  have ok := R.ok
  generalize L.ls.map A.loc = AL at ok ln
  have ei : evI Pg (callF Pg (n + 2)) (.rng2 (.con (.int 1)) (.bin .Add (.bi .len (.cons (.ix (.var 0) (.con (.str "calls"))) .nil)) (.con (.int 1)))) s h = .ok ⟨rngN 1 st.calls.length, st.calls.length + 1, none⟩ h :=
    ev_rng2 (h1 := h) (i := 1) (j := (st.calls.length : Int) + 1) st.calls.length (by simp) (by simp [s0, R.oc, ok, ln]) (by omega) (by omega) (by omega) (by omega)
  exact ⟨s', h', by rw [lb_1]; exact fo_at ei e1, i1, i2, i3, i4, i5⟩
/-- all that are under way have time left -/
def TimeOk (st : CS) : Prop := ∀ c ∈ st.calls, c.word = "tried" → st.clock - c.time < st.ru.r4
theorem TimeOk.just {st : CS} (T : TimeOk st) : JustOk { st with clock := st.clock + 1 } := fun c hc hw => by
  have := T c hc hw
  show st.clock + 1 - c.time ≤ st.ru.r4
  omega
theorem TimeOk.tick1 (st : CS) : TimeOk (tick1 st) := by
  rw [tick1_eq]
  intro c hc hw
  obtain ⟨d, hd, rfl⟩ := List.mem_map.mp (show c ∈ st.calls.map _ from hc)
  unfold tickC at hw ⊢
  split at hw
  · exact absurd hw (fail_word _ _)
  · rename_i q
    rw [if_neg q]
    show st.clock + 1 - d.time < st.ru.r4
    have : ¬ (d.word = "tried" ∧ st.ru.r4 ≤ st.clock + 1 - d.time) := fun z => q ((overC_iff _ _).mpr z)
    have h2 : ¬ st.ru.r4 ≤ st.clock + 1 - d.time := fun z => this ⟨hw, z⟩
    omega
theorem TimeOk.ticks {st : CS} (T : TimeOk st) : ∀ k, TimeOk (tickS k st)
  | 0 => T
  | k + 1 => TimeOk.tick1 _
theorem s_ltick [POwn Pg] (n : Nat) (R : RepO h L st) (rl : st.ru.ok) (hn : st.calls.length ≤ 30) (T : TriedOk st) (J : TimeOk st) (hp : phi st ≤ 90000) (m : Nat) (hm : m ≤ 1000) :
    ∃ h', callF Pg (n + 3) "_law_tick" [.loc L.c, .int m] h = .ok .non h' ∧ RepO h' L (tickS m st) ∧ Fr L.F h h' ∧ h'.length = h.length := by
  rw [c__law_tick]
  obtain ⟨s', h', e1, i1, i2, i3, i4, i5⟩ := for_range (lo := 0) (n := m) (bd := forB Pg (callF Pg (n + 2)) (.nm 2) lb) (s := [some (.loc L.c), some (.int m), none, none, none]) (h := h)
    (fun j s h' => s.length = 5 ∧ s[0]? = some (some (.loc L.c)) ∧ RepO h' L (tickS j st) ∧ Fr L.F h h' ∧ h'.length = h.length) ⟨rfl, rfl, R, Fr.refl _ _, rfl⟩ (fun j s h1 hj I => by
      obtain ⟨sl, s0, R1, f, hl⟩ := I
      obtain ⟨a1, a2, a3, a4, a5, a6⟩ := tickS_ok T j
      have R2 := R1.setClock ((tickS j st).clock + 1)
      have lo : ∀ a b c d e, (ownD a b c d e).length ≤ 100000 := fun a b c d e => by rw [ownD_len]; decide
      have b0 : evS Pg (callF Pg (n + 2)) (nthS 0 lb) (s.set 2 (some (.int (0 + j)))) h1 = .nx (s.set 2 (some (.int (0 + j)))) (h1.set L.c (.dic false (ownD (ruA (tickS j st).ru) (.int ((tickS j st).clock + 1)) (.loc L.r) (.loc L.k) (.loc L.w)))) := by
        simp [lb, nthS, dropS, tlS, hdS, bodyS, f__law_tick, List.getElem?_set, s0, R1.oc, lo]
      obtain ⟨s2, h2, b1, j1, j2, j3, j4, j5⟩ := s_ltickIn (Pg := Pg) n R2 (by rw [a3]; exact rl) (by show (tickS j st).calls.length ≤ 30; omega) (a1.clock _) (J.ticks j).just (by show phi (tickS j st) ≤ 90000; omega) (s := s.set 2 (some (.int (0 + j)))) (by simp [sl]) (by simpa [List.getElem?_set] using s0)
      refine ⟨s2, h2, .inl ?_, j1, j2, j3, f.trans ((Fr.set h1 _ (.inl rfl)).trans j4), by rw [j5]; simpa using hl⟩
      rw [forB_eq, evG_nm, toF_ok]
      exact (step_at (ss := lb) (n := 0) rfl b0).trans ((step_at rfl b1).trans rfl))
  refine ⟨h', ?_, i3, i4, i5⟩
  have b1 : evS Pg (callF Pg (n + 2)) (nthS 0 f__law_tick.body) [some (.loc L.c), some (.int m), none, none, none] h = .nx s' h' :=
    fo_at (t := .nm 2) (b := lb) (ev_rng1 (a := .var 1) m (by simp) rfl (by omega)) e1
  exact run_at (fn := f__law_tick) (r := .nx s' h') rfl ((step_at (ss := f__law_tick.body) (n := 0) rfl b1).trans rfl)
end
end MC

namespace MC
open PySem L2 MI MT
def needD : List (Key × A) := mkDic [(.inr "go on", .lst [.str "put by"]), (.inr "drop", .lst [.str "waits", .str "put by"]), (.inr "change", .lst [.str "waits", .str "put by"])]
def wordD : List (Key × A) := mkDic [(.inr "go on", .str "waits"), (.inr "drop", .str "gone"), (.inr "good", .str "done"), (.inr "never", .str "put by")]
theorem need_go_on : getK (.inr (Str.ofString "go on") : Key) needD = some (.lst [.str "put by"]) := by kernel_rfl
theorem need_drop : getK (.inr (Str.ofString "drop") : Key) needD = some (.lst [.str "waits", .str "put by"]) := by kernel_rfl
theorem need_change : getK (.inr (Str.ofString "change") : Key) needD = some (.lst [.str "waits", .str "put by"]) := by kernel_rfl
theorem need_good : getK (.inr (Str.ofString "good") : Key) needD = none := by kernel_rfl
theorem need_later : getK (.inr (Str.ofString "later") : Key) needD = none := by kernel_rfl
theorem need_never : getK (.inr (Str.ofString "never") : Key) needD = none := by kernel_rfl
theorem word_go_on : getK (.inr (Str.ofString "go on") : Key) wordD = some (.str "waits") := by kernel_rfl
theorem word_drop : getK (.inr (Str.ofString "drop") : Key) wordD = some (.str "gone") := by kernel_rfl
theorem word_good : getK (.inr (Str.ofString "good") : Key) wordD = some (.str "done") := by kernel_rfl
theorem word_never : getK (.inr (Str.ofString "never") : Key) wordD = some (.str "put by") := by kernel_rfl
theorem mk_need : mkDic [(.inr "go on", .lst [.str "put by"]), (.inr "drop", .lst [.str "waits", .str "put by"]), (.inr "change", .lst [.str "waits", .str "put by"])] = needD := rfl
theorem mk_word : mkDic [(.inr "go on", .str "waits"), (.inr "drop", .str "gone"), (.inr "good", .str "done"), (.inr "never", .str "put by")] = wordD := rfl
theorem inLs1 (w a : Str) : inLs (.str w) [.str a] = some (decide (w = a)) := by
  have := inLs_strs w [a]
  simp only [List.map_cons, List.map_nil] at this
  rw [this]
  congr 1
  rw [Bool.eq_iff_iff]
  simp
/-- a deed by hand, or an answer -/
def handS (st : CS) (w : Str) (i : Nat) (c : Cal) (g : Str) : A × CS :=
  if w = "go on" then (if c.word = "put by" then (.non, goOnS st i c) else (refA "BadCall", st))
  else if w = "drop" then (if isRest c.word then (.non, dropS' st i c) else (refA "BadCall", st))
  else if w = "change" then (if (getL g st.roads).isSome then (if isRest c.word then (.non, changeS st i c g) else (refA "BadCall", st)) else (refA "BadName", st))
  else if c.word = "tried" then (.non, answerS st i c w) else (refA "BadCall", st)
def HandW (w : Str) : Prop := w = "go on" ∨ w = "drop" ∨ w = "change" ∨ w = "good" ∨ w = "later" ∨ w = "never"
section
variable {Pg : Prog} {h : AH} {L : Lay} {st : CS}
theorem s_lhand_bad [POwn Pg] (n : Nat) (R : RepO h L st) (w g : A) {num : Int} (hb : ¬ (1 ≤ num ∧ num ≤ st.calls.length)) : callF Pg (n + 1) "_law_hand" [.loc L.c, w, .int num, g] h = .ok (refA "BadCall") h := by
  rw [c__law_hand]
  have ok := R.ok
  have ln : (L.ls.map A.loc).length = st.calls.length := by simp [R.len]
  generalize L.ls.map A.loc = AL at ok ln
  by_cases q : 1 ≤ num
  · have q2 : ¬ num ≤ st.calls.length := fun z => hb ⟨q, z⟩
    simp [f__law_hand, R.oc, ok, ln, q, q2, refA]
  · simp [f__law_hand, R.oc, ok, ln, q, refA]
theorem RepO.app (R : RepO h L st) (g : AH) : RepO (h ++ g) L st := R.fr (Fr.app No h g) fun _ _ => id
theorem Rep.app (R : Rep h L st) (g : AH) : Rep (h ++ g) L st := R.fr (Fr.app No h g) fun _ _ => id
theorem s_lhand [POwn Pg] (n : Nat) (R : RepO h L st) (rl : st.ru.ok) {i : Nat} {c : Cal} (hc : st.calls[i]? = some c) (hf : c.word = "tried" → 0 ≤ c.fails ∧ c.fails < st.ru.r3) (hr : st.rows.length ≤ 90000) {w : Str} (hw : HandW w) (g : Str) :
    ∃ h', callF Pg (n + 3) "_law_hand" [.loc L.c, .str w, numA i, .str g] h = .ok (handS st w i c g).1 h' ∧ RepO h' L (handS st w i c g).2 ∧ Fr L.F h h' := by
  rw [c__law_hand]
  obtain ⟨l, e1, e2, m, nc, nr, nk, nw⟩ := R.call hc
  have hl := lt_of_get e2
  have a0 := at_ls R e1
  have hi : i < st.calls.length := (List.getElem?_eq_some_iff.mp hc).1
  have es : ((i : Int) + 1 - 1) = i := by omega
  have le1 : (1 : Int) ≤ (i : Int) + 1 := by omega
  have le2 : (i : Int) + 1 ≤ st.calls.length := by omega
  have fl : L.F l := .inr (.inr (.inr (.inr m)))
  have fw : L.F L.w := .inr (.inr (.inr (.inl rfl)))
  have ok := R.ok
  have ln : (L.ls.map A.loc).length = st.calls.length := by simp [R.len]
  have ap := fun d : AO => R.app [d]
  have ap2 := fun d e : AO => R.app [d, e]
  have lr : (st.rows.map rowA).length ≤ 100000 := by simp; omega
  have lc : ∀ a b c d e f g k, (cdD a b c d e f g k).length ≤ 100000 := fun a b c d e f g k => by rw [cdD_len]; decide
  have ow := R.ow
  have er : ∀ x, (st.rows ++ [(st.clock, (i : Int) + 1, x)]).map rowA = st.rows.map rowA ++ [.tup [.int st.clock, .int ((i : Int) + 1), .str x]] := fun x => by simp [rowA]
  have fail := fun d : AO => s_lfail (Pg := Pg) n (ap d) rl hc
  generalize hAL : L.ls.map A.loc = AL at ok ln a0
  generalize hRL : st.rows.map rowA = RL at ow lr er
  have g1 : ∀ d : AO, (h ++ [d])[L.c]? = _ := fun d => get_app R.oc
  have g2 : ∀ d : AO, (h ++ [d])[L.k]? = _ := fun d => get_app ok
  have g3 : ∀ d : AO, (h ++ [d])[L.w]? = _ := fun d => get_app ow
  have g4 : ∀ d : AO, (h ++ [d])[l]? = _ := fun d => get_app e2
  have k1 : ∀ d e : AO, (h ++ [d, e])[L.c]? = _ := fun d e => get_app R.oc
  have k3 : ∀ d e : AO, (h ++ [d, e])[L.w]? = _ := fun d e => get_app ow
  have k4 : ∀ d e : AO, (h ++ [d, e])[l]? = _ := fun d e => get_app e2
  have k5 : ∀ (d e : AO) x, ((h ++ [d, e]).set l x)[l]? = some x := fun d e x => List.getElem?_set_self (by simp; omega)
  have k6 : ∀ (d e : AO) x, ((h ++ [d, e]).set l x)[L.c]? = _ := fun d e x => (List.getElem?_set_ne nc.symm).trans (k1 d e)
  have k7 : ∀ (d e : AO) x, ((h ++ [d, e]).set l x)[L.w]? = _ := fun d e x => (List.getElem?_set_ne nw.symm).trans (k3 d e)
  have k8 : ∀ (d e : AO) x y, (((h ++ [d, e]).set l x).set L.w y)[l]? = some x := fun d e x y => (List.getElem?_set_ne nw).trans (k5 d e x)
  have k9 : ∀ (d e : AO) x y, (((h ++ [d, e]).set l x).set L.w y)[L.c]? = _ := fun d e x y => (List.getElem?_set_ne R.cw.symm).trans (k6 d e x)
  have cm : ∀ (d e : AO) x y z, (((h ++ [d, e]).set l x).set L.w y).set l z = ((h ++ [d, e]).set l z).set L.w y := fun d e x y z => by
    rw [List.set_comm _ _ nw, set_id]
  have la2 : ∀ d e : AO, (h ++ [d, e])[h.length + 1]? = some e := fun d e => by simp
  have ls2 : ∀ d e x : AO, (h ++ [d, e]).set (h.length + 1) x = h ++ [d, x] := fun d e x => by
    rw [List.set_append_right _ _ (by omega)]
    simp
  have fr2 : ∀ (d e : AO) x y, Fr L.F h (((h ++ [d, e]).set l x).set L.w y) := fun d e x y => ((Fr.app L.F h [d, e]).trans (Fr.set _ _ fl)).trans (Fr.set _ _ fw)
  have fin := fun (d e : AO) (c' : Cal) (x : Str) => ((ap2 d e).setCall c' e1).say ((i : Int) + 1) x
  rcases hw with rfl | rfl | rfl | rfl | rfl | rfl
  · -- go on
    have il := inLs1 c.word "put by"
    by_cases q : c.word = "put by"
    · rw [q] at il
      simp only [handS, q, if_true]
      refine ⟨_, ?_, fin (.dic false needD) (.dic false wordD) { c with word := "waits", fails := 0, time := st.clock } "sent", fr2 _ _ _ _⟩
      simp only [er, calD] at *
      simp only [f__law_hand, numA]
      simp [R.oc, ok, ln, le1, le2, es, a0, dicPut, pairsA, mk_need, mk_word, need_go_on, word_go_on, g1, g2, g3, g4, il, q, k1, k3, k4, k5, k6, k7, k8, k9, cm, la2, ls2, lc, lr]
    · simp only [handS, q, if_true, if_false]
      refine ⟨_, ?_, ap (.dic false needD), Fr.app _ _ _⟩
      simp only [calD] at *
      simp only [f__law_hand, numA]
      simp [R.oc, ok, ln, le1, le2, es, a0, dicPut, pairsA, mk_need, need_go_on, g1, g2, g3, g4, il, q, refA]
  · -- drop
    have il := inLs2 c.word "waits" "put by"
    have il2 : (decide (c.word = "waits") || decide (c.word = "put by")) = isRest c.word := rfl
    rw [il2] at il
    by_cases q : isRest c.word = true
    · rw [q] at il
      simp only [handS, q, if_true, ne_drop_go0on, if_false]
      refine ⟨_, ?_, fin (.dic false needD) (.dic false wordD) { c with word := "gone" } "gone", fr2 _ _ _ _⟩
      simp only [er, calD] at *
      simp only [f__law_hand, numA]
      simp [R.oc, ok, ln, le1, le2, es, a0, dicPut, pairsA, mk_need, mk_word, need_drop, word_drop, g1, g2, g3, g4, il, k1, k3, k4, k5, k6, k7, k8, k9, la2, ls2, lc, lr]
    · have q : isRest c.word = false := by simpa using q
      rw [q] at il
      simp only [handS, q, if_true, if_false, ne_drop_go0on, Bool.false_eq_true]
      refine ⟨_, ?_, ap (.dic false needD), Fr.app _ _ _⟩
      simp only [calD] at *
      simp only [f__law_hand, numA]
      simp [R.oc, ok, ln, le1, le2, es, a0, dicPut, pairsA, mk_need, need_drop, g1, g2, g3, g4, il, refA]
  · -- change
    by_cases qg : (getL g st.roads).isSome = true
    · have il := inLs2 c.word "waits" "put by"
      have il2 : (decide (c.word = "waits") || decide (c.word = "put by")) = isRest c.word := rfl
      rw [il2] at il
      by_cases q : isRest c.word = true
      · rw [q] at il
        simp only [handS, q, qg, if_true, ne_change_go0on, ne_change_drop, if_false]
        refine ⟨_, ?_, (ap (.dic false needD)).setCall { c with goal := g } e1, (Fr.app L.F h _).trans (Fr.set _ _ fl)⟩
        simp only [calD] at *
        simp only [f__law_hand, numA]
        simp [R.oc, R.or_, getK_dm, qg, ok, ln, le1, le2, es, a0, dicPut, pairsA, mk_need, need_change, g1, g2, g3, g4, il, lc]
      · have q : isRest c.word = false := by simpa using q
        rw [q] at il
        simp only [handS, q, qg, if_true, ne_change_go0on, ne_change_drop, if_false, Bool.false_eq_true]
        refine ⟨_, ?_, ap (.dic false needD), Fr.app _ _ _⟩
        simp only [calD] at *
        simp only [f__law_hand, numA]
        simp [R.oc, R.or_, getK_dm, qg, ok, ln, le1, le2, es, a0, dicPut, pairsA, mk_need, need_change, g1, g2, g3, g4, il, refA]
    · have qg : (getL g st.roads).isSome = false := by simpa using qg
      simp only [handS, qg, if_true, ne_change_go0on, ne_change_drop, if_false, Bool.false_eq_true]
      refine ⟨h, ?_, R, Fr.refl _ _⟩
      simp only [f__law_hand, numA]
      simp [R.oc, R.or_, getK_dm, qg, ok, ln, le1, le2, es, a0, refA]
  · -- good
    have il := inLs1 c.word "tried"
    by_cases q : c.word = "tried"
    · rw [q] at il
      simp only [handS, q, if_true, if_false, ne_good_go0on, ne_good_drop, ne_good_change, answerS, ne_good_later]
      refine ⟨_, ?_, fin (.dic false needD) (.dic false wordD) { c with word := "done" } "done", fr2 _ _ _ _⟩
      simp only [er, calD] at *
      simp only [f__law_hand, numA]
      simp [R.oc, ok, ln, le1, le2, es, a0, dicPut, pairsA, mk_need, mk_word, need_good, word_good, g1, g2, g3, g4, il, q, k1, k3, k4, k5, k6, k7, k8, k9, la2, ls2, lc, lr]
    · simp only [handS, q, if_true, if_false, ne_good_go0on, ne_good_drop, ne_good_change]
      refine ⟨_, ?_, ap (.dic false needD), Fr.app _ _ _⟩
      simp only [calD] at *
      simp only [f__law_hand, numA]
      simp [R.oc, ok, ln, le1, le2, es, a0, dicPut, pairsA, mk_need, need_good, g1, g2, g3, g4, il, q, refA]
  · -- later
    have il := inLs1 c.word "tried"
    by_cases q : c.word = "tried"
    · rw [q] at il
      obtain ⟨h2, f1, f2, f3, f4⟩ := fail (.dic false needD) (hf q) hr
      simp only [handS, q, if_true, if_false, ne_later_go0on, ne_later_drop, ne_later_change, answerS]
      refine ⟨h2, ?_, f2, (Fr.app L.F h _).trans f3⟩
      simp only [calD] at *
      simp only [f__law_hand, numA]
      simp [R.oc, ok, ln, le1, le2, es, a0, dicPut, pairsA, mk_need, need_later, g1, g2, g3, g4, il, q, f1]
    · simp only [handS, q, if_true, if_false, ne_later_go0on, ne_later_drop, ne_later_change]
      refine ⟨_, ?_, ap (.dic false needD), Fr.app _ _ _⟩
      simp only [calD] at *
      simp only [f__law_hand, numA]
      simp [R.oc, ok, ln, le1, le2, es, a0, dicPut, pairsA, mk_need, need_later, g1, g2, g3, g4, il, q, refA]
  · -- never
    have il := inLs1 c.word "tried"
    by_cases q : c.word = "tried"
    · rw [q] at il
      simp only [handS, q, if_true, if_false, ne_never_go0on, ne_never_drop, ne_never_change, answerS, ne_never_later, ne_never_good]
      refine ⟨_, ?_, fin (.dic false needD) (.dic false wordD) { c with word := "put by" } "put by", fr2 _ _ _ _⟩
      simp only [er, calD] at *
      simp only [f__law_hand, numA]
      simp [R.oc, ok, ln, le1, le2, es, a0, dicPut, pairsA, mk_need, mk_word, need_never, word_never, g1, g2, g3, g4, il, q, k1, k3, k4, k5, k6, k7, k8, k9, la2, ls2, lc, lr]
    · simp only [handS, q, if_true, if_false, ne_never_go0on, ne_never_drop, ne_never_change]
      refine ⟨_, ?_, ap (.dic false needD), Fr.app _ _ _⟩
      simp only [calD] at *
      simp only [f__law_hand, numA]
      simp [R.oc, ok, ln, le1, le2, es, a0, dicPut, pairsA, mk_need, need_never, g1, g2, g3, g4, il, q, refA]
end
end MC

namespace MC
open PySem L2 MI MT
@[simp] theorem at0 {α : Type} (x : α) (xs : List α) : L2.atI (x :: xs) 0 = some x := L2.atI_nat (j := 0) rfl
@[simp] theorem at1 {α : Type} (x y : α) (xs : List α) : L2.atI (x :: y :: xs) 1 = some y := L2.atI_nat (j := 1) rfl
@[simp] theorem at2 {α : Type} (x y z : α) (xs : List α) : L2.atI (x :: y :: z :: xs) 2 = some z := L2.atI_nat (j := 2) rfl
@[simp] theorem at3 {α : Type} (x y z w : α) (xs : List α) : L2.atI (x :: y :: z :: w :: xs) 3 = some w := L2.atI_nat (j := 3) rfl
/-- an address is led over -/
def leadD (st : CS) (a b : Str) : A × CS := if (getL a st.roads).isSome && (getL b st.roads).isSome && !ring st a b then (.non, leadS st a b) else (refA "BadName", st)
def addD (st : CS) (a : Str) : A × CS := if (getL a st.roads).isSome || decide (5 ≤ st.roads.length) then (refA "BadName", st) else (.non, addS st a)
def sendD (st : CS) (k g t : Str) : A × CS := if (getL g st.roads).isSome then (if 30 ≤ st.calls.length then (refA "Full", st) else (.int ((st.calls.length : Int) + 1), sendS st k g t)) else (refA "BadName", st)
def handD (st : CS) (w : Str) (num : Int) (g : Str) : A × CS := if 1 ≤ num then (match st.calls[(num - 1).toNat]? with | some c => handS st w (num - 1).toNat c g | none => (refA "BadCall", st)) else (refA "BadCall", st)
section
variable {Pg : Prog} {h : AH} {L : Lay} {st : CS}
theorem s_llead [POwn Pg] (n : Nat) (R : RepO h L st) (G : RoadsOk st.roads) (a b : Str) :
    ∃ h', callF Pg (n + 1) "_law_lead" [.loc L.c, .str a, .str b] h = .ok (leadD st a b).1 h' ∧ RepO h' L (leadD st a b).2 ∧ Fr L.F h h' := by
  rw [c__law_lead]
  by_cases ha : (getL a st.roads).isSome = true
  · by_cases hb : (getL b st.roads).isSome = true
    · obtain ⟨p, hp⟩ := G.path b hb
      have hl := hp.len
      have h5 := G.len
      have ep : pathF st.roads 6 b = p := hp.pathF 6 (by omega)
      have pk := putKA_dm A.str a b st.roads
      have q6 : st.roads.length ≤ 100000 := by omega
      unfold leadD ring
      rw [ep]
      by_cases e : a = b
      · subst e
        rw [if_pos (by simp [ha])]
        refine ⟨_, ?_, R.setRoads _, Fr.set h _ (.inr (.inl rfl))⟩
        have r0 : ∀ f, whileL (evE Pg (callF Pg n) (.and (.cmp .NotEq (.var 1) (.var 2)) (.and (.cmp .NotEq (.var 3) (.var 1)) (.cmp .NotEq (.ix (.ix (.var 0) (.con (.str "roads"))) (.var 3)) (.var 3))))) (evSs Pg (callF Pg n) (.cons (.asg (.nm 3) (.ix (.ix (.var 0) (.con (.str "roads"))) (.var 3))) .nil)) (f + 1) [some (.loc L.c), some (.str a), some (.str a), some (.str a)] h = .nx [some (.loc L.c), some (.str a), some (.str a), some (.str a)] h := fun f => by
          conv => lhs; unfold whileL
          simp
        have r1 := r0 999
        simp only [f__law_lead]
        simp [R.oc, R.or_, getK_dm, ha, dm_len, q6, pk, r1]
      · have key : ∀ (f : Nat) (y : Str) (q : List Str), Path st.roads y q → q.length ≤ f →
            ∃ z, whileL (evE Pg (callF Pg n) (.and (.cmp .NotEq (.var 1) (.var 2)) (.and (.cmp .NotEq (.var 3) (.var 1)) (.cmp .NotEq (.ix (.ix (.var 0) (.con (.str "roads"))) (.var 3)) (.var 3))))) (evSs Pg (callF Pg n) (.cons (.asg (.nm 3) (.ix (.ix (.var 0) (.con (.str "roads"))) (.var 3))) .nil)) f [some (.loc L.c), some (.str a), some (.str b), some (.str y)] h = .nx [some (.loc L.c), some (.str a), some (.str b), some (.str z)] h ∧ (z = a ↔ a ∈ q) := by
          intro f
          induction f with
          | zero => intro y q hq h1; exact absurd (List.length_eq_zero_iff.mp (Nat.le_zero.mp h1)) hq.ne
          | succ f ih =>
            intro y q hq h1
            by_cases ya : y = a
            · refine ⟨y, ?_, ?_⟩
              · simp only [whileL]
                simp [e, ya]
              · obtain ⟨q', rfl⟩ := hq.head
                simp [ya]
            · cases hq with
              | stop e' =>
                refine ⟨y, ?_, ?_⟩
                · simp only [whileL]
                  simp [R.oc, R.or_, getK_dm, e, e', ya]
                · have : ¬ a = y := fun z => ya z.symm
                  simp [ya, this]
              | @step _ m q e' ne g =>
                obtain ⟨z, r1, r2⟩ := ih m q g (by simp at h1; omega)
                refine ⟨z, ?_, ?_⟩
                · rw [← r1]
                  conv => lhs; unfold whileL
                  have ne' : ¬ m = y := ne
                  simp [R.oc, R.or_, getK_dm, e, e', ne', ya]
                · have : ¬ a = y := fun z => ya z.symm
                  simp [r2, this]
        obtain ⟨z, r1, r2⟩ := key 1000 b p hp (by omega)
        by_cases e2 : a ∈ p
        · have ez : z = a := r2.mpr e2
          rw [if_neg (by simp [e, e2])]
          refine ⟨h, ?_, R, Fr.refl _ _⟩
          simp only [f__law_lead]
          simp [R.oc, R.or_, getK_dm, ha, hb, r1, e, ez, refA]
        · have ez : ¬ z = a := fun q => e2 (r2.mp q)
          rw [if_pos (by simp [ha, hb, e2])]
          refine ⟨_, ?_, R.setRoads _, Fr.set h _ (.inr (.inl rfl))⟩
          simp only [f__law_lead]
          simp [R.oc, R.or_, getK_dm, ha, hb, r1, e, ez, dm_len, q6, pk]
    · have hb : (getL b st.roads).isSome = false := by simpa using hb
      unfold leadD
      rw [if_neg (by simp [hb])]
      refine ⟨h, ?_, R, Fr.refl _ _⟩
      simp only [f__law_lead]
      simp [R.oc, R.or_, getK_dm, ha, hb, refA]
  · have ha : (getL a st.roads).isSome = false := by simpa using ha
    unfold leadD
    rw [if_neg (by simp [ha])]
    refine ⟨h, ?_, R, Fr.refl _ _⟩
    simp only [f__law_lead]
    simp [R.oc, R.or_, getK_dm, ha, refA]
end
inductive Dd where
  | send (k g t : Str)
  | att
  | tick (m : Nat)
  | lead (a b : Str)
  | add (a : Str)
  | hand (w : Str) (num : Int) (g : Str)
def Dd.v : Dd → A
  | .send k g t => .tup [.str "send", .str k, .str g, .str t]
  | .att => .tup [.str "try"]
  | .tick m => .tup [.str "tick", .int m]
  | .lead a b => .tup [.str "lead", .str a, .str b]
  | .add a => .tup [.str "add", .str a]
  | .hand w num g => .tup [.str w, .int num, .str g]
def Dd.Ok : Dd → Prop
  | .send k g t => isName k = true ∧ isName g = true ∧ isText t = true
  | .att => True
  | .tick m => m ≤ 100
  | .lead a b => isName a = true ∧ isName b = true
  | .add a => isName a = true
  | .hand w _ g => HandW w ∧ isName g = true
def doS (st : CS) : Dd → A × CS
  | .send k g t => sendD st k g t
  | .att => tryS st
  | .tick m => (.non, tickS m st)
  | .lead a b => leadD st a b
  | .add a => addD st a
  | .hand w num g => handD st w num g
theorem WF.timeOk {st : CS} (w : WF st) : TimeOk st := fun c hc ht => (w.time c hc ht).2
theorem hand_ne {w : Str} (hw : HandW w) : ¬ w = "send" ∧ ¬ w = "try" ∧ ¬ w = "tick" ∧ ¬ w = "lead" ∧ ¬ w = "add" := by
  rcases hw with rfl | rfl | rfl | rfl | rfl | rfl <;> simp
/-- the places behind a deed: those ahead of it, or new ones -/
structure Grow (L L' : Lay) (h h' : AH) : Prop where
  c : L'.c = L.c
  new : ∀ x, L'.F x → L.F x ∨ h.length ≤ x
  fr : Fr L.F h h'
theorem Grow.same {L : Lay} {h h' : AH} (f : Fr L.F h h') : Grow L L h h' := ⟨rfl, fun _ q => .inl q, f⟩
theorem Grow.more {L : Lay} {h h' : AH} (f : Fr L.F h h') : Grow L (L.more h.length) h h' := ⟨rfl, fun x q => by
  rcases q with q | q | q | q | q
  · exact .inl (.inl q)
  · exact .inl (.inr (.inl q))
  · exact .inl (.inr (.inr (.inl q)))
  · exact .inl (.inr (.inr (.inr (.inl q))))
  · rcases List.mem_append.mp (show x ∈ L.ls ++ [h.length] from q) with z | z
    · exact .inl (.inr (.inr (.inr (.inr z))))
    · rw [List.mem_singleton.mp z]; exact .inr (Nat.le_refl _), f⟩
section
variable {Pg : Prog} {h : AH} {L : Lay} {st : CS}
theorem s_own_does [POwn Pg] (n : Nat) (R : RepO h L st) (W : WF st) (hp : phi st ≤ 90000) (d : Dd) (hd : d.Ok) :
    ∃ L' h', callF Pg (n + 5) "_law_own_does" [.loc L.c, d.v] h = .ok (doS st d).1 h' ∧ RepO h' L' (doS st d).2 ∧ Grow L L' h h' := by
  have hr : st.rows.length ≤ 90000 := by unfold phi at hp; omega
  rw [c__law_own_does]
  cases d with
  | send k g t =>
    simp only [doS, sendD, Dd.v]
    by_cases hg : (getL g st.roads).isSome = true
    · by_cases h30 : 30 ≤ st.calls.length
      · have e := s_lsend_full (Pg := Pg) (n + 3) R (.str k) (.str t) hg (by have := W.n30; omega)
        rw [if_pos hg, if_pos h30]
        exact ⟨L, h, by simp [f__law_own_does, e], R, .same (Fr.refl _ _)⟩
      · obtain ⟨h', e, R', f, _⟩ := s_lsend (Pg := Pg) (n + 3) R (key := k) (text := t) hg (by omega) hr
        rw [if_pos hg, if_neg h30]
        exact ⟨_, h', by simp [f__law_own_does, e], R', .more f⟩
    · have e := s_lsend_addr (Pg := Pg) (n + 3) R (goal := g) (.str k) (.str t) (by simpa using hg)
      rw [if_neg hg]
      exact ⟨L, h, by simp [f__law_own_does, e], R, .same (Fr.refl _ _)⟩
  | att =>
    obtain ⟨h', e, R', f⟩ := s_ltry (Pg := Pg) n R W.n30 W.roads W.goal hr
    simp only [doS, Dd.v]
    exact ⟨L, h', by simp [f__law_own_does, e], R', .same f⟩
  | tick m =>
    obtain ⟨h', e, R', f, _⟩ := s_ltick (Pg := Pg) (n + 1) R W.ru W.n30 W.tried W.timeOk hp m (by have : m ≤ 100 := hd; omega)
    simp only [doS, Dd.v]
    exact ⟨L, h', by simp [f__law_own_does, e], R', .same f⟩
  | lead a b =>
    obtain ⟨h', e, R', f⟩ := s_llead (Pg := Pg) (n + 3) R W.roads a b
    simp only [doS, Dd.v]
    exact ⟨L, h', by simp [f__law_own_does, e], R', .same f⟩
  | add a =>
    simp only [doS, Dd.v, addD]
    have pk := putKA_dm A.str a a st.roads
    have h5 := W.roads.len
    have q6 : st.roads.length ≤ 100000 := by omega
    by_cases ha : (getL a st.roads).isSome = true
    · rw [if_pos (by simp [ha])]
      exact ⟨L, h, by simp [f__law_own_does, R.oc, R.or_, getK_dm, ha, refA], R, .same (Fr.refl _ _)⟩
    · have ha : (getL a st.roads).isSome = false := by simpa using ha
      by_cases q : 5 ≤ st.roads.length
      · rw [if_pos (by simp [q])]
        have q5 : ((st.roads.length : Int) == 5) = true := by simp; omega
        exact ⟨L, h, by simp [f__law_own_does, R.oc, R.or_, getK_dm, ha, dm_len, q5, refA], R, .same (Fr.refl _ _)⟩
      · rw [if_neg (by simp [ha, q])]
        have q5 : ((st.roads.length : Int) == 5) = false := by simp; omega
        exact ⟨L, _, by simp [f__law_own_does, R.oc, R.or_, getK_dm, ha, dm_len, q5, q6, pk], R.setRoads _, .same (Fr.set h _ (.inr (.inl rfl)))⟩
  | hand w num g =>
    obtain ⟨hw, hg⟩ := hd
    obtain ⟨w1, w2, w3, w4, w5⟩ := hand_ne hw
    simp only [doS, Dd.v, handD]
    by_cases q : 1 ≤ num ∧ num ≤ st.calls.length
    · have hi : (num - 1).toNat < st.calls.length := by omega
      obtain ⟨h', e, R', f⟩ := s_lhand (Pg := Pg) (n + 1) R W.ru (List.getElem?_eq_getElem hi) (fun t => W.tried _ (List.getElem_mem hi) t) hr hw g
      have en : numA (num - 1).toNat = .int num := by unfold numA; congr 1; omega
      rw [if_pos q.1, List.getElem?_eq_getElem hi]
      rw [en] at e
      exact ⟨L, h', by simp [f__law_own_does, w1, w2, w3, w4, w5, e], R', .same f⟩
    · have e := s_lhand_bad (Pg := Pg) (n + 3) R (.str w) (.str g) q
      have es : (if 1 ≤ num then (match st.calls[(num - 1).toNat]? with | some c => handS st w (num - 1).toNat c g | none => (refA "BadCall", st)) else (refA "BadCall", st)) = (refA "BadCall", st) := by
        by_cases q1 : 1 ≤ num
        · have : st.calls[(num - 1).toNat]? = none := by simp; omega
          rw [if_pos q1, this]
        · rw [if_neg q1]
      rw [es]
      exact ⟨L, h, by simp [f__law_own_does, w1, w2, w3, w4, w5, e], R, .same (Fr.refl _ _)⟩
end
end MC

namespace MC
open PySem L2 MI MT
class PTold (Pg : Prog) : Prop where
  bc : Pg.told.contains ("BadCall" : Str) = true
  bn : Pg.told.contains ("BadName" : Str) = true
  br : Pg.told.contains ("BadRule" : Str) = true
  bt : Pg.told.contains ("BadText" : Str) = true
  bm : Pg.told.contains ("BadTime" : Str) = true
  fu : Pg.told.contains ("Full" : Str) = true
section
variable {Pg : Prog} {cf : Str → List A → AH → R A} {h h' : AH} {L : Lay} {st : CS} {s : ASt}
theorem told_ok {b : E} {v : A} (e : evE Pg cf b s h = .ok v h') : evE Pg cf (.told b) s h = .ok v h' := by rw [evE_told, e]
theorem told_exc {b : E} {c : Str} (e : evE Pg cf b s h = .exc c h') (t : Pg.told.contains c = true) : evE Pg cf (.told b) s h = .ok (refA c) h' := by
  rw [evE_told, e]
  simp only [t, if_true]
  rfl
theorem addr_none {rs : List (Str × Str)} {g : Str} (hg : getL g rs = none) : addrA rs (.str g) = false := by simp [addrA, hg]
theorem addr_some {rs : List (Str × Str)} {g : Str} (hn : isName g = true) (hg : (getL g rs).isSome = true) : addrA rs (.str g) = true := by simp [addrA, hg, hn]
theorem cnt_bad {num : Int} {m : Nat} (q : ¬ (1 ≤ num ∧ num ≤ m)) : isCnt (.int num) 1 m = false := by
  simp only [isCnt, Bool.and_eq_false_iff, decide_eq_false_iff_not]
  omega
theorem handD_bad {w g : Str} {num : Int} (q : ¬ (1 ≤ num ∧ num ≤ st.calls.length)) : handD st w num g = (refA "BadCall", st) := by
  unfold handD
  by_cases q1 : 1 ≤ num
  · have : st.calls[(num - 1).toNat]? = none := by simp; omega
    rw [if_pos q1, this]
  · rw [if_neg q1]
theorem s_does [PDoes Pg] [PTold Pg] (n : Nat) (R : Rep h L st) (W : WF st) (hp : phi st ≤ 90000) (d : Dd) (hd : d.Ok) :
    ∃ L' h', callF Pg (n + 7) "_law_does" [.loc L.c, d.v] h = .ok (doS st d).1 h' ∧ Rep h' L' (doS st d).2 ∧ Grow L L' h h' := by
  have hr : st.rows.length ≤ 90000 := by unfold phi at hp; omega
  have tc : Pg.told.contains ("BadCall" : Str) = true := PTold.bc
  have tn : Pg.told.contains ("BadName" : Str) = true := PTold.bn
  have tf : Pg.told.contains ("Full" : Str) = true := PTold.fu
  rw [c__law_does]
  cases d with
  | send k g t =>
    obtain ⟨o1, o2, o3⟩ := hd
    simp only [doS, sendD, Dd.v]
    by_cases hg : (getL g st.roads).isSome = true
    · by_cases h30 : 30 ≤ st.calls.length
      · have e := s_send_bad (Pg := Pg) (n + 2) R (.str k) (.str g) (.str t) (ok_name o1) (ok_name o2) (ok_text o3) "Full" (.inr (.inr (.inr ⟨o1, addr_some o2 hg, o3, h30, rfl⟩)))
        rw [if_pos hg, if_pos h30]
        exact ⟨L, h, by simp [f__law_does, R.oc, e, tf, refA, -List.contains_eq_mem], R, .same (Fr.refl _ _)⟩
      · obtain ⟨h', e, R', f, _⟩ := s_send (Pg := Pg) (n + 2) R W.roads o1 hg o3 (by omega) hr
        rw [if_pos hg, if_neg h30]
        exact ⟨_, h', by simp [f__law_does, R.oc, e], R', .more f⟩
    · have hg' : getL g st.roads = none := by simpa using hg
      have e := s_send_bad (Pg := Pg) (n + 2) R (.str k) (.str g) (.str t) (ok_name o1) (ok_name o2) (ok_text o3) "BadName" (.inr (.inl ⟨o1, addr_none hg', rfl⟩))
      rw [if_neg hg]
      exact ⟨L, h, by simp [f__law_does, R.oc, e, tn, refA, -List.contains_eq_mem], R, .same (Fr.refl _ _)⟩
  | att =>
    obtain ⟨h', e, R', f⟩ := s_attempt (Pg := Pg) n R W.n30 W.roads W.goal hr
    simp only [doS, Dd.v]
    exact ⟨L, h', by simp [f__law_does, R.oc, e], R', .same f⟩
  | tick m =>
    obtain ⟨h', e, R', f, _⟩ := s_tick (Pg := Pg) (n + 3) R W.ru W.n30 W.tried hp m hd
    simp only [doS, Dd.v]
    exact ⟨L, h', by simp [f__law_does, R.oc, e], R', .same f⟩
  | lead a b =>
    obtain ⟨o1, o2⟩ := hd
    simp only [doS, leadD, Dd.v]
    by_cases q : ((getL a st.roads).isSome && (getL b st.roads).isSome) = true
    · have q' := q
      rw [Bool.and_eq_true] at q'
      have e := s_lead (Pg := Pg) (n + 2) R W.roads q'.1 q'.2
      split at e
      · rename_i rg
        obtain ⟨h', e, f⟩ := e
        rw [if_neg (by simp [rg])]
        exact ⟨L, h', by simp [f__law_does, R.oc, e, tn, refA, -List.contains_eq_mem], R.fr f fun _ _ => id, .same f.no⟩
      · rename_i rg
        obtain ⟨h', e, R', f⟩ := e
        rw [if_pos (by simp [rg, q'])]
        exact ⟨L, h', by simp [f__law_does, R.oc, e], R', .same f⟩
    · have e := s_lead_bad (Pg := Pg) (n + 2) R (.str a) (.str b) (ok_name o1) (ok_name o2) (by
        rw [Bool.eq_false_iff]
        intro z
        simp only [addrA, o1, o2, Bool.true_and] at z
        exact q z)
      rw [if_neg (by rw [Bool.and_eq_true]; exact fun z => q z.1)]
      exact ⟨L, h, by simp [f__law_does, R.oc, e, tn, refA, -List.contains_eq_mem], R, .same (Fr.refl _ _)⟩
  | add a =>
    simp only [doS, Dd.v, addD]
    by_cases q : ((getL a st.roads).isSome || decide (5 ≤ st.roads.length)) = true
    · rw [if_pos q]
      have e := s_add_bad (Pg := Pg) (n + 3) R (.str a) (ok_name hd) (by
        rw [Bool.or_eq_true, decide_eq_true_eq] at q
        rcases q with q | q
        · exact .inr (.inl (addr_some hd q))
        · exact .inr (.inr q))
      exact ⟨L, h, by simp [f__law_does, R.oc, e, tn, refA, -List.contains_eq_mem], R, .same (Fr.refl _ _)⟩
    · rw [if_neg q]
      rw [Bool.or_eq_true, decide_eq_true_eq] at q
      obtain ⟨h', e, R', f⟩ := s_add (Pg := Pg) (n + 3) R hd (by simpa using fun z => q (.inl z)) (by omega)
      exact ⟨L, h', by simp [f__law_does, R.oc, e], R', .same f⟩
  | hand w num g =>
    obtain ⟨hw, hg⟩ := hd
    simp only [doS, Dd.v]
    by_cases q : 1 ≤ num ∧ num ≤ st.calls.length
    · have hi : (num - 1).toNat < st.calls.length := by omega
      have hc := List.getElem?_eq_getElem hi
      have en : numA (num - 1).toNat = .int num := by unfold numA; congr 1; omega
      unfold handD
      rw [if_pos q.1, hc]
      generalize (num - 1).toNat = i at *
      generalize st.calls[i] = c at *
      dsimp only
      have tried : c.word = "tried" → 0 ≤ c.fails ∧ c.fails < st.ru.r3 := fun t => W.tried _ (List.mem_of_getElem? hc) t
      have ans : ∀ w, isWord w = true → (w = "good" ∨ w = "later" ∨ w = "never") → ∃ L' h', callF Pg (n + 6) "Caller.answer" [.loc L.c, .int num, .str w] h = (if c.word = "tried" then .ok .non h' else .exc "BadCall" h') ∧ Rep h' L' (handS st w i c g).2 ∧ Grow L L' h h' ∧ (handS st w i c g).1 = (if c.word = "tried" then .non else refA "BadCall") := by
        intro w h1 h2
        have hs : handS st w i c g = if c.word = "tried" then (.non, answerS st i c w) else (refA "BadCall", st) := by
          rcases h2 with rfl | rfl | rfl <;> simp [handS]
        rw [hs]
        by_cases ct : c.word = "tried"
        · obtain ⟨h', e, R', f⟩ := s_answer (Pg := Pg) (n + 3) R W.ru hc h1 ct (tried ct) hr
          rw [en] at e
          simp only [ct, if_true]
          exact ⟨L, h', e, R', .same f, trivial⟩
        · have e := s_answer_no (Pg := Pg) (n + 3) R hc (.str w) rfl (.inr ct)
          rw [en] at e
          simp only [ct, if_false]
          exact ⟨L, h, e, R, .same (Fr.refl _ _), trivial⟩
      rcases hw with rfl | rfl | rfl | rfl | rfl | rfl
      · have e := s_go_on (Pg := Pg) (n + 3) R hc hr
        rw [en] at e
        split at e
        · rename_i ct
          obtain ⟨h', e, R', f⟩ := e
          simp only [handS, ct, if_true]
          exact ⟨L, h', by simp [f__law_does, R.oc, e], R', .same f⟩
        · rename_i ct
          simp only [handS, ct, if_true, if_false]
          exact ⟨L, h, by simp [f__law_does, R.oc, e, tc, refA, -List.contains_eq_mem], R, .same (Fr.refl _ _)⟩
      · have e := s_drop (Pg := Pg) (n + 3) R hc hr
        rw [en] at e
        split at e
        · rename_i ct
          obtain ⟨h', e, R', f⟩ := e
          simp only [handS, ct, if_true, ne_drop_go0on, if_false]
          exact ⟨L, h', by simp [f__law_does, R.oc, e], R', .same f⟩
        · rename_i ct
          simp only [handS, ct, if_true, if_false, ne_drop_go0on]
          exact ⟨L, h, by simp [f__law_does, R.oc, e, tc, refA, -List.contains_eq_mem], R, .same (Fr.refl _ _)⟩
      · by_cases qg : (getL g st.roads).isSome = true
        · have e := s_change (Pg := Pg) (n + 2) R W.roads hc qg
          rw [en] at e
          split at e
          · rename_i ct
            obtain ⟨h', e, R', f⟩ := e
            simp only [handS, ct, qg, if_true, ne_change_go0on, ne_change_drop, if_false]
            exact ⟨L, h', by simp [f__law_does, R.oc, e], R', .same f⟩
          · rename_i ct
            simp only [handS, ct, qg, if_true, if_false, ne_change_go0on, ne_change_drop]
            exact ⟨L, h, by simp [f__law_does, R.oc, e, tc, refA, -List.contains_eq_mem], R, .same (Fr.refl _ _)⟩
        · have e := s_change_addr (Pg := Pg) (n + 2) R hc (.str g) (ok_name hg) (addr_none (by simpa using qg))
          rw [en] at e
          simp only [handS, qg, if_true, if_false, ne_change_go0on, ne_change_drop]
          exact ⟨L, h, by simp [f__law_does, R.oc, e, tn, refA, -List.contains_eq_mem], R, .same (Fr.refl _ _)⟩
      · obtain ⟨L', h', e, R', f, e2⟩ := ans "good" rfl (.inl rfl)
        refine ⟨L', h', ?_, R', f⟩
        rw [e2]
        by_cases ct : c.word = "tried" <;> simp [ct] at e <;> simp [f__law_does, R.oc, e, tc, ct, refA, -List.contains_eq_mem]
      · obtain ⟨L', h', e, R', f, e2⟩ := ans "later" rfl (.inr (.inl rfl))
        refine ⟨L', h', ?_, R', f⟩
        rw [e2]
        by_cases ct : c.word = "tried" <;> simp [ct] at e <;> simp [f__law_does, R.oc, e, tc, ct, refA, -List.contains_eq_mem]
      · obtain ⟨L', h', e, R', f, e2⟩ := ans "never" rfl (.inr (.inr rfl))
        refine ⟨L', h', ?_, R', f⟩
        rw [e2]
        by_cases ct : c.word = "tried" <;> simp [ct] at e <;> simp [f__law_does, R.oc, e, tc, ct, refA, -List.contains_eq_mem]
    · rw [handD_bad q]
      have cb := cnt_bad q
      have e1 := s_go_on_bad (Pg := Pg) (n + 3) R (.int num) rfl cb
      have e2 := s_drop_bad (Pg := Pg) (n + 3) R (.int num) rfl cb
      have e3 := s_change_bad (Pg := Pg) (n + 2) R (.int num) (.str g) rfl cb
      have e4 := fun w => s_answer_bad (Pg := Pg) (n + 3) R (.int num) (.str w) rfl cb
      refine ⟨L, h, ?_, R, .same (Fr.refl _ _)⟩
      rcases hw with rfl | rfl | rfl | rfl | rfl | rfl <;> simp [f__law_does, R.oc, e1, e2, e3, e4, tc, refA, -List.contains_eq_mem]
end
end MC

namespace MC
open PySem L2 MI MT
def Wd (w : Str) : Prop := w = "waits" ∨ w = "tried" ∨ w = "done" ∨ w = "put by" ∨ w = "gone"
structure CalOk (r : Ru) (rs : List (Str × Str)) (t : Int) (c : Cal) : Prop where
  goal : (getL c.goal rs).isSome = true
  place : (getL c.place rs).isSome = true
  word : Wd c.word
  f0 : 0 ≤ c.fails
  f1 : c.fails ≤ r.r3
  fw : c.word = "tried" ∨ c.word = "waits" → c.fails < r.r3
  tt : c.word = "tried" → t - c.time < r.r4
  tl : c.word = "tried" → c.time ≤ t
  t0 : 0 ≤ c.time
  t1 : c.time ≤ t + 60
  mn : 0 ≤ c.many
  key : isName c.key = true
  text : isText c.text = true
def Rw (w : Str) : Prop := w = "sent" ∨ w = "tried" ∨ w = "later" ∨ w = "done" ∨ w = "put by" ∨ w = "gone"
structure WG (st : CS) : Prop where
  ru : st.ru.ok
  roads : RoadsOk st.roads
  n30 : st.calls.length ≤ 30
  clk : 0 ≤ st.clock
  call : ∀ c ∈ st.calls, CalOk st.ru st.roads st.clock c
  rows : ∀ r ∈ st.rows, Rw r.2.2
theorem WG.wf {st : CS} (w : WG st) : WF st where
  ru := w.ru
  roads := w.roads
  n30 := w.n30
  goal := fun c hc => (w.call c hc).goal
  fails := fun c hc t => ⟨(w.call c hc).f0, (w.call c hc).fw t⟩
  time := fun c hc t => ⟨by have := (w.call c hc).tl t; omega, (w.call c hc).tt t⟩
  key := fun c hc => ⟨(w.call c hc).key, (w.call c hc).text⟩
theorem WG.new (r : Ru) (hr : r.ok) : WG (newS r) := ⟨hr, (WF.new r hr).roads, by simp [newS], by simp [newS], by simp [newS], by simp [newS]⟩
theorem wait_b {r : Ru} (hr : r.ok) (f : Int) : 0 ≤ r.wait f ∧ r.wait f ≤ 60 := by
  have b0 := hr.b0
  have b1 := hr.b1
  have b2 := hr.b2
  have h1 : 0 ≤ r.r1 ^ (f.toNat - 1) := Int.pow_nonneg (by omega)
  have h2 : 0 ≤ r.r0 * r.r1 ^ (f.toNat - 1) := Int.mul_nonneg (by omega) h1
  unfold Ru.wait W mn
  split <;> omega
theorem WG.put {st : CS} (w : WG st) {i : Nat} {c : Cal} (hc : CalOk st.ru st.roads st.clock c) : WG (st.put i c) where
  ru := w.ru
  roads := w.roads
  n30 := by show (st.calls.set i c).length ≤ 30; rw [List.length_set]; exact w.n30
  clk := w.clk
  call := fun d hd => by
    rcases List.mem_or_eq_of_mem_set (show d ∈ st.calls.set i c from hd) with e | e
    · exact w.call d e
    · rw [e]; exact hc
  rows := w.rows
theorem WG.say {st : CS} (w : WG st) (num : Int) {x : Str} (hx : Rw x) : WG (st.say num x) := ⟨w.ru, w.roads, w.n30, w.clk, w.call, fun r hr => by
  rcases List.mem_append.mp (show r ∈ st.rows ++ [(st.clock, num, x)] from hr) with e | e
  · exact w.rows r e
  · rw [List.mem_singleton.mp e]; exact hx⟩
theorem failW_ok (st : CS) (c : Cal) : Rw (failW st c) := by
  unfold failW
  split
  · exact .inr (.inr (.inr (.inr (.inl rfl))))
  · exact .inr (.inr (.inl rfl))
theorem failC_ok {st : CS} (hr : st.ru.ok) (h0 : 0 ≤ st.clock) {c : Cal} {t : Int} (ht : t ≤ st.clock) (hc : CalOk st.ru st.roads t c) (hw : c.word = "tried") : CalOk st.ru st.roads st.clock (failC st c) := by
  have f := hc.fw (.inl hw)
  have f0 := hc.f0
  have wb := wait_b hr (c.fails + 1)
  have t0 := hc.t0
  have t1 := hc.t1
  unfold failC
  split
  · rename_i q
    exact ⟨hc.goal, hc.place, .inr (.inr (.inr (.inl rfl))), by show 0 ≤ c.fails + 1; omega, by show c.fails + 1 ≤ _; omega, fun z => by simp at z, fun z => by simp at z, fun z => by simp at z, t0, by show c.time ≤ _; omega, hc.mn, hc.key, hc.text⟩
  · rename_i q
    exact ⟨hc.goal, hc.place, .inl rfl, by show 0 ≤ c.fails + 1; omega, by show c.fails + 1 ≤ _; omega, fun _ => by show c.fails + 1 < _; omega, fun z => by simp at z, fun z => by simp at z, by show 0 ≤ st.clock + _; omega, by show st.clock + _ ≤ _; omega, hc.mn, hc.key, hc.text⟩
theorem path_addr {rs : List (Str × Str)} {n : Str} {p : List Str} (h : Path rs n p) {x : Str} (hx : x ∈ p) : (getL x rs).isSome = true := by
  rw [getL_isSome, List.any_eq_true]
  obtain ⟨y, hy, e⟩ := List.mem_map.mp (h.keys x hx)
  exact ⟨y, hy, by simpa using e⟩
theorem end_addr {st : CS} (G : RoadsOk st.roads) {z : Str} (hz : (getL z st.roads).isSome = true) : (getL (endOf st z) st.roads).isSome = true := by
  obtain ⟨p, hp⟩ := G.path z hz
  have hl := hp.len
  have h5 := G.len
  have e : endOf st z = p.getLastD z := hp.endF 6 (by omega)
  rw [e]
  have hm : p.getLastD z ∈ p := by
    rw [List.getLastD_eq_getLast?, List.getLast?_eq_some_getLast hp.ne]
    exact List.getLast_mem _
  exact path_addr hp hm
theorem WG.tick1 {st : CS} (w : WG st) : WG (tick1 st) := by
  rw [tick1_eq]
  refine ⟨w.ru, w.roads, by simpa using w.n30, by have := w.clk; show 0 ≤ st.clock + 1; omega, fun c hc => ?_, fun r hr => ?_⟩
  rotate_left
  · rcases List.mem_append.mp (show r ∈ st.rows ++ _ from hr) with e | e
    · exact w.rows r e
    · obtain ⟨i, _, hi⟩ := List.mem_filterMap.mp e
      unfold tickW at hi
      split at hi
      · split at hi
        · rw [← Option.some.inj hi]; exact failW_ok _ _
        · cases hi
      · cases hi
  obtain ⟨d, hd, rfl⟩ := List.mem_map.mp (show c ∈ st.calls.map _ from hc)
  have od := w.call d hd
  show CalOk st.ru st.roads (st.clock + 1) _
  unfold tickC
  split
  · rename_i q
    have q := (overC_iff _ _).mp q
    exact failC_ok (st := { st with clock := st.clock + 1 }) w.ru (by have := w.clk; show 0 ≤ st.clock + 1; omega) (t := st.clock) (by show st.clock ≤ st.clock + 1; omega) od q.1
  · rename_i q
    have q : ¬ (d.word = "tried" ∧ st.ru.r4 ≤ st.clock + 1 - d.time) := fun z => q ((overC_iff _ _).mpr z)
    exact ⟨od.goal, od.place, od.word, od.f0, od.f1, od.fw, fun z => Int.not_le.mp (fun y => q ⟨z, y⟩), fun z => by have := od.tl z; omega, od.t0, by have := od.t1; omega, od.mn, od.key, od.text⟩
theorem WG.ticks {st : CS} (w : WG st) : ∀ k, WG (tickS k st)
  | 0 => w
  | k + 1 => (WG.ticks w k).tick1
theorem CalOk.roads {r : Ru} {rs : List (Str × Str)} {t : Int} {c : Cal} (o : CalOk r rs t c) (a b : Str) : CalOk r (putL a b rs) t c := by
  have h : ∀ z, (getL z rs).isSome = true → (getL z (putL a b rs)).isSome = true := fun z hz => by
    rw [getL_put]
    split
    · rfl
    · exact hz
  exact ⟨h _ o.goal, h _ o.place, o.word, o.f0, o.f1, o.fw, o.tt, o.tl, o.t0, o.t1, o.mn, o.key, o.text⟩
theorem WG.send {st : CS} (w : WG st) {k g t : Str} (hk : isName k = true) (ht : isText t = true) (hg : (getL g st.roads).isSome = true) (hn : st.calls.length < 30) : WG (sendS st k g t) := by
  have b3 := w.ru.b3
  have c0 := w.clk
  refine ⟨w.ru, w.roads, by show (st.calls ++ [_]).length ≤ 30; simp; omega, w.clk, fun c hc => ?_, fun r hr => ?_⟩
  rotate_left
  · rcases List.mem_append.mp (show r ∈ st.rows ++ [_] from hr) with e | e
    · exact w.rows r e
    · rw [List.mem_singleton.mp e]; exact .inl rfl
  rcases List.mem_append.mp (show c ∈ st.calls ++ [newC st k g t] from hc) with e | e
  · exact w.call c e
  · rw [List.mem_singleton.mp e]
    exact ⟨hg, hg, .inl rfl, by show (0 : Int) ≤ 0; omega, by show (0 : Int) ≤ st.ru.r3; omega, fun _ => by show (0 : Int) < st.ru.r3; omega, fun z => by simp [newC] at z, fun z => by simp [newC] at z, c0, by show st.clock ≤ _; show st.clock ≤ st.clock + 60; omega, by show (0 : Int) ≤ 0; omega, hk, ht⟩
theorem beginC_ok {st : CS} (w : WG st) {c : Cal} (hc : CalOk st.ru st.roads st.clock c) (hw : c.word = "waits") : CalOk st.ru st.roads st.clock (beginC st c) := by
  have b4 := w.ru.b4
  have c0 := w.clk
  have m := hc.mn
  exact ⟨hc.goal, end_addr w.roads hc.goal, .inr (.inl rfl), hc.f0, hc.f1, fun _ => hc.fw (.inr hw), fun _ => by show st.clock - st.clock < st.ru.r4; omega, fun _ => by show st.clock ≤ st.clock; omega, c0, by show st.clock ≤ st.clock + 60; omega, by show 0 ≤ c.many + 1; omega, hc.key, hc.text⟩
theorem due_waits {st : CS} {i : Nat} {c : Cal} (h : dueB st i c = true) : c.word = "waits" := by
  unfold dueB at h
  simp only [Bool.and_eq_true, decide_eq_true_eq] at h
  exact h.1.1.1
theorem WG.try_ {st : CS} (w : WG st) : WG (tryS st).2 := by
  unfold tryS
  split
  · exact w
  · rename_i i r ed
    obtain ⟨c, hc, hd⟩ := dueL_mem (st := st) (i := i) (by rw [ed]; exact List.mem_cons_self)
    rw [hc]
    exact (w.put (beginC_ok w (w.call c (List.mem_of_getElem? hc)) (due_waits hd))).say _ (.inr (.inl rfl))
theorem WG.answer {st : CS} (w : WG st) {i : Nat} {c : Cal} (hc : st.calls[i]? = some c) (hw : c.word = "tried") (x : Str) : WG (answerS st i c x) := by
  have o := w.call c (List.mem_of_getElem? hc)
  unfold answerS
  split
  · exact (w.put (failC_ok w.ru w.clk (Int.le_refl _) o hw)).say _ (failW_ok _ _)
  · refine (w.put ?_).say _ ?_
    rotate_left
    · split
      · exact .inr (.inr (.inr (.inl rfl)))
      · exact .inr (.inr (.inr (.inr (.inl rfl))))
    split
    · exact ⟨o.goal, o.place, .inr (.inr (.inl rfl)), o.f0, o.f1, fun z => by simp at z, fun z => by simp at z, fun z => by simp at z, o.t0, o.t1, o.mn, o.key, o.text⟩
    · exact ⟨o.goal, o.place, .inr (.inr (.inr (.inl rfl))), o.f0, o.f1, fun z => by simp at z, fun z => by simp at z, fun z => by simp at z, o.t0, o.t1, o.mn, o.key, o.text⟩
theorem rest_ne {w : Str} (h : isRest w = true) : ¬ w = "tried" := by
  intro e
  subst e
  simp [isRest] at h
theorem WG.hand {st : CS} (w : WG st) {i : Nat} {c : Cal} (hc : st.calls[i]? = some c) (x g : Str) : WG (handS st x i c g).2 := by
  have o := w.call c (List.mem_of_getElem? hc)
  have b3 := w.ru.b3
  have c0 := w.clk
  unfold handS
  split
  · split
    · exact (w.put (c := { c with word := "waits", fails := 0, time := st.clock }) ⟨o.goal, o.place, .inl rfl, by show (0 : Int) ≤ 0; omega, by show (0 : Int) ≤ st.ru.r3; omega, fun _ => by show (0 : Int) < st.ru.r3; omega, fun z => by simp at z, fun z => by simp at z, c0, by show st.clock ≤ st.clock + 60; omega, o.mn, o.key, o.text⟩).say _ (.inl rfl)
    · exact w
  · split
    · split
      · exact (w.put (c := { c with word := "gone" }) ⟨o.goal, o.place, .inr (.inr (.inr (.inr rfl))), o.f0, o.f1, fun z => by simp at z, fun z => by simp at z, fun z => by simp at z, o.t0, o.t1, o.mn, o.key, o.text⟩).say _ (.inr (.inr (.inr (.inr (.inr rfl)))))
      · exact w
    · split
      · split
        · rename_i hg
          split
          · exact w.put ⟨hg, o.place, o.word, o.f0, o.f1, o.fw, o.tt, o.tl, o.t0, o.t1, o.mn, o.key, o.text⟩
          · exact w
        · exact w
      · split
        · rename_i ht
          exact w.answer hc ht x
        · exact w
theorem WG.do {st : CS} (w : WG st) {d : Dd} (hd : d.Ok) : WG (doS st d).2 := by
  cases d with
  | send k g t =>
    obtain ⟨o1, o2, o3⟩ := hd
    simp only [doS, sendD]
    split
    · rename_i hg
      split
      · exact w
      · exact w.send o1 o3 hg (by omega)
    · exact w
  | att => exact w.try_
  | tick m => exact w.ticks m
  | lead a b =>
    simp only [doS, leadD]
    split
    · rename_i q
      rw [Bool.and_eq_true, Bool.and_eq_true] at q
      exact ⟨w.ru, w.roads.lead q.1.1 q.1.2 (by simpa using q.2), w.n30, w.clk, fun c hc => (w.call c hc).roads a b, w.rows⟩
    · exact w
  | add a =>
    simp only [doS, addD]
    split
    · exact w
    · rename_i q
      rw [Bool.or_eq_true, decide_eq_true_eq] at q
      exact ⟨w.ru, w.roads.add hd (by simpa using fun z => q (.inl z)) (by omega), w.n30, w.clk, fun c hc => (w.call c hc).roads a a, w.rows⟩
  | hand x num g =>
    simp only [doS, handD]
    split
    · split
      · rename_i c hc
        exact w.hand hc x g
      · exact w
    · exact w
theorem phi_put {st : CS} {i : Nat} {c d : Cal} (hc : st.calls[i]? = some c) : phi (st.put i d) ≤ phi st + 1 := by
  have h1 := count_set isTried (y := d) hc
  show st.rows.length + ((st.calls.set i d).filter isTried).length ≤ st.rows.length + _ + 1
  by_cases a : isTried c = true <;> by_cases b : isTried d = true <;> simp [a, b] at h1 <;> omega
theorem phi_say (st : CS) (num : Int) (x : Str) : phi (st.say num x) = phi st + 1 := by
  show (st.rows ++ [_]).length + (st.calls.filter isTried).length = st.rows.length + (st.calls.filter isTried).length + 1
  simp
  omega
theorem phi_ps {st : CS} {i : Nat} {c d : Cal} (hc : st.calls[i]? = some c) (num : Int) (x : Str) : phi ((st.put i d).say num x) ≤ phi st + 2 := by
  have := phi_put (d := d) hc
  rw [phi_say]
  omega
theorem phi_do {st : CS} (w : WG st) (d : Dd) : phi (doS st d).2 ≤ phi st + 2 := by
  cases d with
  | send k g t =>
    simp only [doS, sendD]
    split
    · split
      · exact Nat.le_add_right _ _
      · show phi (sendS st k g t) ≤ _
        unfold sendS
        rw [phi_say]
        show st.rows.length + ((st.calls ++ [newC st k g t]).filter isTried).length + 1 ≤ st.rows.length + _ + 2
        rw [List.filter_append]
        have : ([newC st k g t].filter isTried).length ≤ 1 := List.length_filter_le _ _
        simp only [List.length_append]
        omega
    · exact Nat.le_add_right _ _
  | att =>
    simp only [doS, tryS]
    split
    · exact Nat.le_add_right _ _
    · split
      · rename_i hc
        exact phi_ps hc _ _
      · exact Nat.le_add_right _ _
  | tick m =>
    have := (tickS_ok w.wf.tried m).2.1
    show phi (tickS m st) ≤ _
    omega
  | lead a b =>
    simp only [doS, leadD]
    split
    · show phi st ≤ _; omega
    · exact Nat.le_add_right _ _
  | add a =>
    simp only [doS, addD]
    split
    · exact Nat.le_add_right _ _
    · show phi st ≤ _; omega
  | hand x num g =>
    simp only [doS, handD]
    split
    · split
      · rename_i c hc
        unfold handS
        split
        · split
          · exact phi_ps hc _ _
          · exact Nat.le_add_right _ _
        · split
          · split
            · exact phi_ps hc _ _
            · exact Nat.le_add_right _ _
          · split
            · split
              · split
                · have := phi_put (d := { c with goal := g }) hc
                  show phi (st.put _ _) ≤ _
                  omega
                · exact Nat.le_add_right _ _
              · exact Nat.le_add_right _ _
            · split
              · show phi (answerS st _ c x) ≤ _
                unfold answerS
                split
                · exact phi_ps hc _ _
                · exact phi_ps hc _ _
              · exact Nat.le_add_right _ _
      · exact Nat.le_add_right _ _
    · exact Nat.le_add_right _ _
end MC

namespace MC
open PySem L2 MI MT
theorem at_mod {α : Type} (xs : List α) (x n : Int) (hn : n = xs.length) (h0 : xs ≠ []) : ∃ y ∈ xs, L2.atI xs (x % n) = some y := by
  have hl : 0 < xs.length := List.length_pos_iff.mpr h0
  have b1 := Int.emod_nonneg x (show n ≠ 0 by omega)
  have b2 := Int.emod_lt_of_pos x (show 0 < n by omega)
  obtain ⟨j, hj⟩ := Int.eq_ofNat_of_zero_le b1
  have hj2 : j < xs.length := by omega
  exact ⟨xs[j], List.getElem_mem hj2, by rw [hj]; exact L2.atI_nat (List.getElem?_eq_getElem hj2)⟩
theorem mul_si {h : AH} (x : Str) (j : Int) (h0 : 0 ≤ j) (h1 : j ≤ 1000) (hx : x.length ≤ 100) : binOp h .Mult (.str x) (.int j) = some (.str ⟨((List.replicate j.toNat x.cps.toList).flatten).toArray⟩) := by
  simp [binOp, h0, h1, hx]
section
variable {Pg : Prog} {cf : Str → List A → AH → R A} {h : AH} {L : Lay} {st : CS}
theorem text_drawn (H : Int) : ∃ t, isText t = true ∧ ∀ (h : AH) (s : ASt), s[2]? = some (some (.int H)) → evE Pg cf (.bin .Mult (.ix (.con (.str "ab ~Z")) (.bin .Mod (.bin .FloorDiv (.var 2) (.con (.int 8192))) (.con (.int 5)))) (.bin .Mod (.bin .FloorDiv (.var 2) (.bin .Pow (.con (.int 2)) (.con (.int 16)))) (.ix (.lst false (.cons (.con (.int 4)) (.cons (.con (.int 21)) .nil))) (.bin .Mod (.bin .FloorDiv (.var 2) (.bin .Pow (.con (.int 2)) (.con (.int 20)))) (.con (.int 2)))))) s h = .ok (.str t) h := by
  have b5 := Int.emod_nonneg (H / 8192) (show (5 : Int) ≠ 0 by decide)
  have b6 := Int.emod_lt_of_pos (H / 8192) (show (0 : Int) < 5 by decide)
  obtain ⟨i, hi⟩ := Int.eq_ofNat_of_zero_le b5
  have hcs : ∀ i, i < 5 → (32 ≤ (Str.ofString "ab ~Z").cps.toList.getD i 0 ∧ (Str.ofString "ab ~Z").cps.toList.getD i 0 ≤ 126) ∧ ¬ (Str.ofString "ab ~Z").cps.toList.getD i 0 = 37 := by decide +kernel
  have l5 : (Str.ofString "ab ~Z").length = 5 := by kernel_rfl
  have ei : ∀ h : AH, ixA h (.str "ab ~Z") (.int (H / 8192 % 5)) = some (.str ⟨#[(Str.ofString "ab ~Z").cps.toList.getD i 0]⟩) := fun h => by
    rw [hi, ix_str _ i (by omega) (by omega)]
  have hc := hcs i (by omega)
  generalize (Str.ofString "ab ~Z").cps.toList.getD i 0 = c at ei hc
  have fin : ∀ j : Int, 0 ≤ j → j ≤ 20 → isText ⟨((List.replicate j.toNat [c]).flatten).toArray⟩ = true := fun j h0 h1 => by
    have e : (List.replicate j.toNat [c]).flatten = List.replicate j.toNat c := by
      generalize j.toNat = m
      induction m with
      | zero => rfl
      | succ m ih => rw [List.replicate_succ, List.flatten_cons, ih, List.replicate_succ]; rfl
    rw [e]
    have : j.toNat ≤ 20 := by omega
    simp only [isText, Str.length, List.size_toArray, List.length_replicate, decide_eq_true this, Bool.true_and]
    rw [List.all_eq_true]
    intro x hx
    have := List.eq_of_mem_replicate hx
    subst this
    simp [hc]
  have h2 : H / 2 ^ 20 % 2 = 0 ∨ H / 2 ^ 20 % 2 = 1 := by omega
  have mul : ∀ (h : AH) (j : Int), 0 ≤ j → j ≤ 20 → binOp h .Mult (.str ⟨#[c]⟩) (.int j) = some (.str ⟨((List.replicate j.toNat [c]).flatten).toArray⟩) := fun h j h0 h1 => mul_si _ j h0 (by omega) (by simp [Str.length])
  have p16 : (2 : Int) ^ 16 = 65536 := by decide
  have p20 : (2 : Int) ^ 20 = 1048576 := by decide
  rw [p20] at h2
  rcases h2 with e | e
  · have j0 := Int.emod_nonneg (H / 65536) (show (4 : Int) ≠ 0 by decide)
    have j1 := Int.emod_lt_of_pos (H / 65536) (show (0 : Int) < 4 by decide)
    refine ⟨_, fin (H / 65536 % 4) j0 (by omega), fun h s s2 => ?_⟩
    have m := fun h => mul h (H / 65536 % 4) j0 (by omega)
    generalize ((List.replicate (H / 65536 % 4).toNat [c]).flatten).toArray = T at m
    simp [s2, ei, p16, p20, e, m, newL]
  · have j0 := Int.emod_nonneg (H / 65536) (show (21 : Int) ≠ 0 by decide)
    have j1 := Int.emod_lt_of_pos (H / 65536) (show (0 : Int) < 21 by decide)
    refine ⟨_, fin (H / 65536 % 21) j0 (by omega), fun h s s2 => ?_⟩
    have m := fun h => mul h (H / 65536 % 21) j0 (by omega)
    generalize ((List.replicate (H / 65536 % 21).toNat [c]).flatten).toArray = T at m
    simp [s2, ei, p16, p20, e, m, newL]
/-- the names of the drawn deeds -/
def names6 : List Str := ["home", "out", "x", "yy", "far", "six"]
theorem names6_ok : ∀ z ∈ names6, isName z = true := by
  intro z hz
  simp only [names6, List.mem_cons, List.not_mem_nil, or_false] at hz
  rcases hz with rfl | rfl | rfl | rfl | rfl | rfl <;> decide +kernel
/-- .. the calls that are under way or put by -/
def underB (c : Cal) : Bool := decide (c.word = "tried") || decide (c.word = "put by")
def underL (cs : List Cal) : List Int := ((List.range cs.length).filter fun j => match cs[j]? with | some c => underB c | none => false).map fun (j : Nat) => (j : Int) + 1
theorem comp_under [POwn Pg] (R : RepO h L st) (hn : st.calls.length ≤ 30) {s : ASt} (sl : s.length = 13) (s1 : s[1]? = some (some (.loc L.c))) : evE Pg cf (.comp false (.bin .Add (.var 10) (.con (.int 1))) (.tp (.cons (.nm 10) (.cons (.nm 11) .nil))) (.enu (.ix (.var 1) (.con (.str "calls")))) (.cons (.cmp .In (.ix (.var 11) (.con (.str "word"))) (.tup (.cons (.con (.str "tried")) (.cons (.con (.str "put by")) .nil)))) .nil) [12, 10, 11]) s h = .ok (.lst ((underL st.calls).map A.int)) h := by
  have ok := R.ok
  have ln : (L.ls.map A.loc).length = st.calls.length := by simp [R.len]
  have hn2 : (L.ls.map A.loc).length ≤ 30 := by omega
  have hx : ∀ i, (enuA (.loc L.k) (L.ls.map A.loc).length).nx i h = some ((List.range (L.ls.map A.loc).length).map fun (j : Nat) => A.tup [.int (j : Int), .loc (L.ls.getD j 0)])[i]? := fun i => by
    simp only [enuA, listAt, ok]
    by_cases hi : i < L.ls.length
    · simp [hi]
    · simp [hi]
  have k := comp_zipN (nx := (enuA (.loc L.k) (L.ls.map A.loc).length).nx) (bd := compB Pg cf (.bin .Add (.var 10) (.con (.int 1))) (.tp (.cons (.nm 10) (.cons (.nm 11) .nil))) (.cons (.cmp .In (.ix (.var 11) (.con (.str "word"))) (.tup (.cons (.con (.str "tried")) (.cons (.con (.str "put by")) .nil)))) .nil) [12, 10, 11] s)
    (ys := (List.range st.calls.length).map fun (j : Nat) => match st.calls[j]? with | some c => if underB c then some (A.int ((j : Int) + 1)) else none | none => none) (h := h) hx (by simp [ln]) (fun j x y h1 h2 => by
      have hj : j < st.calls.length := by have := (List.getElem?_eq_some_iff.mp h2).1; simpa using this
      obtain ⟨l, d, q1, q2, q3⟩ := R.pick hj
      have hl : j < L.ls.length := by rw [R.len]; exact hj
      have gd : L.ls.getD j 0 = l := by simp [List.getD, q1]
      simp [hl, gd] at h1
      simp [hj, q2] at h2
      have el : L.ls[j] = l := by rw [List.getElem?_eq_getElem hl] at q1; exact Option.some.inj q1
      rw [el] at h1
      subst h1
      simp only [calD] at q3
      have h10 : 10 < s.length := by omega
      have h11 : 11 < s.length := by omega
      have il := inLs2 d.word "tried" "put by"
      have il2 : (decide (d.word = "tried") || decide (d.word = "put by")) = underB d := rfl
      have ed : st.calls[j] = d := by rw [List.getElem?_eq_getElem hj] at q2; exact Option.some.inj q2
      rw [il2] at il
      subst h2
      cases eu : underB d <;> rw [eu] at il <;> simp [List.getElem?_set, h10, h11, q3, il, eu, ed, wipeA]) (by have := R.len; simp; omega)
  have ef : ((List.range st.calls.length).map fun (j : Nat) => match st.calls[j]? with | some c => if underB c then some (A.int ((j : Int) + 1)) else none | none => none).filterMap id = (underL st.calls).map A.int := by
    unfold underL
    generalize List.range st.calls.length = xs
    induction xs with
    | nil => rfl
    | cons x xs ih =>
      rw [List.map_cons, List.filterMap_cons, List.filter_cons]
      cases e : st.calls[x]? with
      | none => simpa [e] using ih
      | some c =>
        cases eu : underB c
        · simpa [e, eu] using ih
        · simp only [e, eu, id, if_true, List.map_cons]
          rw [ih]
  rw [ef] at k
  have lr : ((List.range (L.ls.map A.loc).length).map fun (j : Nat) => A.tup [.int (j : Int), .loc (L.ls.getD j 0)]).length = (L.ls.map A.loc).length := by simp
  rw [lr] at k
  generalize (underL st.calls).map A.int = UL at k
  generalize L.ls.map A.loc = AL at *
  rw [evE_comp]
  simp [s1, R.oc, ok, enuA] at k ⊢
  simp [k, newL]
end
end MC

namespace MC
open PySem L2 MI MT
def db : Ss := f__law_deed.body
section
variable {Pg : Prog} {h : AH} {L : Lay} {st : CS}
theorem ne_nilL {h : AH} (us : List Int) : eqA h (.lst (us.map A.int)) (.lst []) = some us.isEmpty := by
  rw [eq_nilL]
  cases us <;> rfl
/-- the draws ahead of the ways -/
theorem deed_pre [POwn Pg] [PDeed Pg] (n : Nat) (R : RepO h L st) (hn : st.calls.length ≤ 30) (more : Int) :
    ∃ s num g t, evSs Pg (callF Pg (n + 2)) db [some (.int more), some (.loc L.c), none, none, none, none, none, none, none, none, none, none, none] h = evSs Pg (callF Pg (n + 2)) (dropS 8 db) s h ∧ s.length = 13 ∧ s[2]? = some (some (.int (more / 64))) ∧ s[3]? = some (some (.lst (names6.map A.str))) ∧ s[4]? = some (some (.int num)) ∧ s[6]? = some (some (.str g)) ∧ s[7]? = some (some (.str t)) ∧ s[8]? = some (some (.int (more % 16))) ∧ g ∈ names6 ∧ isText t = true := by
  have ok := R.ok
  have ln : (L.ls.map A.loc).length = st.calls.length := by simp [R.len]
  have lp : (0 : Int) < (st.calls.length : Int) + 1 := by omega
  generalize hH : more / 64 = H
  have e0 : evS Pg (callF Pg (n + 2)) (nthS 0 db) [some (.int more), some (.loc L.c), none, none, none, none, none, none, none, none, none, none, none] h = .nx [some (.int more), some (.loc L.c), some (.int H), none, none, none, none, none, none, none, none, none, none] h := by
    simp [nthS, dropS, tlS, hdS, db, f__law_deed, hH]
  have e1 : evS Pg (callF Pg (n + 2)) (nthS 1 db) [some (.int more), some (.loc L.c), some (.int H), none, none, none, none, none, none, none, none, none, none] h = .nx [some (.int more), some (.loc L.c), some (.int H), some (.lst (names6.map A.str)), none, none, none, none, none, none, none, none, none] h := by
    simp [nthS, dropS, tlS, hdS, db, f__law_deed, newL, names6]
  obtain ⟨g, g1, g2⟩ := at_mod names6 (H / 1024) 6 rfl (by simp [names6])
  have g3 : L2.atI (names6.map A.str) (H / 1024 % 6) = some (.str g) := by
    have b1 := Int.emod_nonneg (H / 1024) (show (6 : Int) ≠ 0 by decide)
    obtain ⟨j, hj⟩ := Int.eq_ofNat_of_zero_le b1
    rw [hj] at g2 ⊢
    have hj6 : j < 6 := by have := Int.emod_lt_of_pos (H / 1024) (show (0 : Int) < 6 by decide); omega
    have : names6[j]? = some g := by
      have hl : j < names6.length := by simpa [names6] using hj6
      have e := L2.atI_nat (List.getElem?_eq_getElem hl)
      rw [e] at g2
      rw [List.getElem?_eq_getElem hl]
      exact g2
    refine L2.atI_nat ?_
    rw [List.getElem?_map, this]
    rfl
  obtain ⟨t, ht, et⟩ := text_drawn (Pg := Pg) (cf := callF Pg (n + 2)) H
  have un := fun (s : ASt) sl s1 => comp_under (Pg := Pg) (cf := callF Pg (n + 2)) R hn (s := s) sl s1
  have nn := ne_nilL (h := h) (underL st.calls)
  have num2 : underL st.calls ≠ [] → ∃ u, L2.atI ((underL st.calls).map A.int) (H / 256 % ((underL st.calls).length : Int)) = some (.int u) ∧ (0 : Int) < (underL st.calls).length := fun hne => by
    obtain ⟨y, hy, ey⟩ := at_mod ((underL st.calls).map A.int) (H / 256) (underL st.calls).length (by simp) (by simpa using hne)
    obtain ⟨u, _, rfl⟩ := List.mem_map.mp hy
    have := List.length_pos_iff.mpr hne
    exact ⟨u, ey, by omega⟩
  have lU : ((underL st.calls).map A.int).length = (underL st.calls).length := by simp
  generalize L.ls.map A.loc = AL at ok ln
  generalize (underL st.calls).map A.int = UL at *
  generalize names6.map A.str = NL at *
  have e2 : evS Pg (callF Pg (n + 2)) (nthS 2 db) [some (.int more), some (.loc L.c), some (.int H), some (.lst NL), none, none, none, none, none, none, none, none, none] h = .nx [some (.int more), some (.loc L.c), some (.int H), some (.lst NL), some (.int (1 + H % ((st.calls.length : Int) + 1))), none, none, none, none, none, none, none, none] h := by
    simp [nthS, dropS, tlS, hdS, db, f__law_deed, R.oc, ok, ln, lp]
  have e3 : evS Pg (callF Pg (n + 2)) (nthS 3 db) [some (.int more), some (.loc L.c), some (.int H), some (.lst NL), some (.int (1 + H % ((st.calls.length : Int) + 1))), none, none, none, none, none, none, none, none] h = .nx [some (.int more), some (.loc L.c), some (.int H), some (.lst NL), some (.int (1 + H % ((st.calls.length : Int) + 1))), some (.lst UL), none, none, none, none, none, none, none] h := by
    have u := un [some (.int more), some (.loc L.c), some (.int H), some (.lst NL), some (.int (1 + H % ((st.calls.length : Int) + 1))), none, none, none, none, none, none, none, none] rfl rfl
    simp only [nthS, dropS, tlS, hdS, db, f__law_deed, evS_asg]
    rw [u]
    simp
  have e4 : ∃ num, evS Pg (callF Pg (n + 2)) (nthS 4 db) [some (.int more), some (.loc L.c), some (.int H), some (.lst NL), some (.int (1 + H % ((st.calls.length : Int) + 1))), some (.lst UL), none, none, none, none, none, none, none] h = .nx [some (.int more), some (.loc L.c), some (.int H), some (.lst NL), some (.int num), some (.lst UL), none, none, none, none, none, none, none] h := by
    by_cases q : underL st.calls = []
    · refine ⟨1 + H % ((st.calls.length : Int) + 1), ?_⟩
      simp [q] at nn
      simp [nthS, dropS, tlS, hdS, db, f__law_deed, nn, newL]
    · obtain ⟨u, e, l0⟩ := num2 q
      have nn2 : eqA h (.lst UL) (.lst []) = some false := by rw [nn]; simp [q]
      by_cases q2 : 0 < H / 64 % 4
      · refine ⟨u, ?_⟩
        have l1 : 0 < (underL st.calls).length := by omega
        simp [nthS, dropS, tlS, hdS, db, f__law_deed, nn2, newL, q2, lU, l0, l1, e]
      · refine ⟨1 + H % ((st.calls.length : Int) + 1), ?_⟩
        simp [nthS, dropS, tlS, hdS, db, f__law_deed, nn2, newL, q2]
  obtain ⟨num, e4⟩ := e4
  have e5 : evS Pg (callF Pg (n + 2)) (nthS 5 db) [some (.int more), some (.loc L.c), some (.int H), some (.lst NL), some (.int num), some (.lst UL), none, none, none, none, none, none, none] h = .nx [some (.int more), some (.loc L.c), some (.int H), some (.lst NL), some (.int num), some (.lst UL), some (.str g), none, none, none, none, none, none] h := by
    simp [nthS, dropS, tlS, hdS, db, f__law_deed, g3]
  have e6 : evS Pg (callF Pg (n + 2)) (nthS 6 db) [some (.int more), some (.loc L.c), some (.int H), some (.lst NL), some (.int num), some (.lst UL), some (.str g), none, none, none, none, none, none] h = .nx [some (.int more), some (.loc L.c), some (.int H), some (.lst NL), some (.int num), some (.lst UL), some (.str g), some (.str t), none, none, none, none, none] h := by
    have u := et h [some (.int more), some (.loc L.c), some (.int H), some (.lst NL), some (.int num), some (.lst UL), some (.str g), none, none, none, none, none, none] rfl
    simp only [nthS, dropS, tlS, hdS, db, f__law_deed, evS_asg]
    rw [u]
    simp
  have e7 : evS Pg (callF Pg (n + 2)) (nthS 7 db) [some (.int more), some (.loc L.c), some (.int H), some (.lst NL), some (.int num), some (.lst UL), some (.str g), some (.str t), none, none, none, none, none] h = .nx [some (.int more), some (.loc L.c), some (.int H), some (.lst NL), some (.int num), some (.lst UL), some (.str g), some (.str t), some (.int (more % 16)), none, none, none, none] h := by
    simp [nthS, dropS, tlS, hdS, db, f__law_deed]
  refine ⟨_, num, g, t, (step_at (ss := db) (n := 0) rfl e0).trans ((step_at rfl e1).trans ((step_at rfl e2).trans ((step_at rfl e3).trans ((step_at rfl e4).trans ((step_at rfl e5).trans ((step_at rfl e6).trans (step_at rfl e7))))))), rfl, rfl, rfl, rfl, rfl, rfl, rfl, g1, ht⟩
theorem s_deed [POwn Pg] [PDeed Pg] (n : Nat) (R : RepO h L st) (hn : st.calls.length ≤ 30) (more : Int) : ∃ d : Dd, d.Ok ∧ callF Pg (n + 3) "_law_deed" [.int more, .loc L.c] h = .ok d.v h := by
  rw [c__law_deed]
  obtain ⟨s, num, g, t, e, sl, s2, s3, s4, s6, s7, s8, hg, ht⟩ := deed_pre (Pg := Pg) n R hn more
  have gn := names6_ok g hg
  generalize more / 64 = H at s2
  have w0 := Int.emod_nonneg more (show (16 : Int) ≠ 0 by decide)
  have w1 := Int.emod_lt_of_pos more (show (0 : Int) < 16 by decide)
  generalize more % 16 = way at s8 w0 w1
  have st0 : startA f__law_deed.slots [.int more, .loc L.c] = [some (.int more), some (.loc L.c), none, none, none, none, none, none, none, none, none, none, none] := rfl
  have fin : ∀ {v : A}, evSs Pg (callF Pg (n + 2)) (dropS 8 db) s h = .rt v h → runFn Pg (callF Pg (n + 2)) f__law_deed [.int more, .loc L.c] h = .ok v h := fun {v} q => by
    exact run_at (fn := f__law_deed) (r := .rt v h) rfl (e.trans q)
  have p22 : (2 : Int) ^ 22 = 4194304 := by decide
  have p24 : (2 : Int) ^ 24 = 16777216 := by decide
  have p26 : (2 : Int) ^ 26 = 67108864 := by decide
  have p30 : (2 : Int) ^ 30 = 1073741824 := by decide
  have h9 : 9 < s.length := by omega
  by_cases q1 : way < 4
  · obtain ⟨kz, hk, ek⟩ := s_any_name (Pg := Pg) n (H / 16777216) h
    obtain ⟨tz, htz, etz⟩ := s_any_text (Pg := Pg) n (H / 1073741824) h
    obtain ⟨ky, kyM, kyE⟩ := at_mod [A.str "k", .str "key", .str "z", .str kz] (H / 4194304) 4 rfl (by simp)
    obtain ⟨ty, tyM, tyE⟩ := at_mod [A.str t, .str tz] (H / 67108864) 2 rfl (by simp)
    have hky : ∃ k, ky = .str k ∧ isName k = true := by
      simp only [List.mem_cons, List.not_mem_nil, or_false] at kyM
      rcases kyM with e | e | e | e
      · exact ⟨_, e, by decide +kernel⟩
      · exact ⟨_, e, by decide +kernel⟩
      · exact ⟨_, e, by decide +kernel⟩
      · exact ⟨_, e, hk⟩
    have hty : ∃ k, ty = .str k ∧ isText k = true := by
      simp only [List.mem_cons, List.not_mem_nil, or_false] at tyM
      rcases tyM with e | e
      · exact ⟨_, e, ht⟩
      · exact ⟨_, e, htz⟩
    obtain ⟨k, rfl, hk2⟩ := hky
    obtain ⟨t2, rfl, ht2⟩ := hty
    refine ⟨.send k g t2, ⟨hk2, gn, ht2⟩, fin ?_⟩
    simp [db, dropS, tlS, f__law_deed, s2, s6, s7, s8, q1, p22, p24, p26, p30, ek, etz, kyE, tyE, newL, List.getElem?_set, h9, Dd.v]
  · by_cases q2 : way < 8
    · refine ⟨.att, trivial, fin ?_⟩
      simp [db, dropS, tlS, f__law_deed, s8, q1, q2, Dd.v]
    · by_cases q3 : way < 11
      · obtain ⟨wy, wyM, wyE⟩ := at_mod [A.str "good", .str "later", .str "never", .str "later", .str "good"] (H / 4194304) 5 rfl (by simp)
        have hw : ∃ w, wy = .str w ∧ HandW w := by
          simp only [List.mem_cons, List.not_mem_nil, or_false] at wyM
          rcases wyM with e | e | e | e | e
          · exact ⟨_, e, .inr (.inr (.inr (.inl rfl)))⟩
          · exact ⟨_, e, .inr (.inr (.inr (.inr (.inl rfl))))⟩
          · exact ⟨_, e, .inr (.inr (.inr (.inr (.inr rfl))))⟩
          · exact ⟨_, e, .inr (.inr (.inr (.inr (.inl rfl))))⟩
          · exact ⟨_, e, .inr (.inr (.inr (.inl rfl)))⟩
        obtain ⟨w, rfl, hw⟩ := hw
        refine ⟨.hand w num g, ⟨hw, gn⟩, fin ?_⟩
        simp [db, dropS, tlS, f__law_deed, s2, s4, s6, s8, q1, q2, q3, p22, wyE, newL, Dd.v]
      · by_cases q4 : way = 11
        · obtain ⟨wy, wyM, wyE⟩ := at_mod [A.int 0, .int 1, .int 1, .int 2, .int 3, .int 5, .int 10, .int 100] (H / 4194304) 8 rfl (by simp)
          have hw : ∃ m : Nat, wy = .int m ∧ m ≤ 100 := by
            simp only [List.mem_cons, List.not_mem_nil, or_false] at wyM
            rcases wyM with e | e | e | e | e | e | e | e
            · exact ⟨0, e, by decide⟩
            · exact ⟨1, e, by decide⟩
            · exact ⟨1, e, by decide⟩
            · exact ⟨2, e, by decide⟩
            · exact ⟨3, e, by decide⟩
            · exact ⟨5, e, by decide⟩
            · exact ⟨10, e, by decide⟩
            · exact ⟨100, e, by decide⟩
          obtain ⟨m, rfl, hm⟩ := hw
          refine ⟨.tick m, hm, fin ?_⟩
          simp [db, dropS, tlS, f__law_deed, s2, s8, q4, p22, wyE, newL, Dd.v]
        · by_cases q5 : way = 12
          · obtain ⟨g2, g3, g4⟩ := at_mod (names6.map A.str) (H / 16777216) 6 rfl (by simp [names6])
            obtain ⟨g5, g6, rfl⟩ := List.mem_map.mp g3
            refine ⟨.lead g g5, ⟨gn, names6_ok _ g6⟩, fin ?_⟩
            generalize names6.map A.str = NL at *
            simp [db, dropS, tlS, f__law_deed, s2, s3, s6, s8, q5, p24, g4, Dd.v]
          · by_cases q6 : way = 13
            · refine ⟨.add g, gn, fin ?_⟩
              simp [db, dropS, tlS, f__law_deed, s6, s8, q6, Dd.v]
            · obtain ⟨wy, wyM, wyE⟩ := at_mod [A.str "go on", .str "drop", .str "change", .str "go on", .str "go on"] (H / 4194304) 5 rfl (by simp)
              have hw : ∃ w, wy = .str w ∧ HandW w := by
                simp only [List.mem_cons, List.not_mem_nil, or_false] at wyM
                rcases wyM with e | e | e | e | e
                · exact ⟨_, e, .inl rfl⟩
                · exact ⟨_, e, .inr (.inl rfl)⟩
                · exact ⟨_, e, .inr (.inr (.inl rfl))⟩
                · exact ⟨_, e, .inl rfl⟩
                · exact ⟨_, e, .inl rfl⟩
              obtain ⟨w, rfl, hw⟩ := hw
              refine ⟨.hand w num g, ⟨hw, gn⟩, fin ?_⟩
              have b4 : (way == 11) = false := by simpa using q4
              have b5 : (way == 12) = false := by simpa using q5
              have b6 : (way == 13) = false := by simpa using q6
              simp [db, dropS, tlS, f__law_deed, s2, s4, s6, s8, q1, q2, q3, b4, b5, b6, p22, wyE, newL, Dd.v]
end
end MC

namespace MC
open PySem L2 MI MT
/-- a value that is data, at most so deep -/
def okD : Nat → A → Bool
  | _, .non => true
  | _, .bl _ => true
  | _, .int _ => true
  | _, .str z => PyData.strOk z
  | n + 1, .tup xs => xs.all (okD n)
  | n + 1, .lst xs => xs.all (okD n)
  | n + 1, .fro xs => xs.all (okD n)
  | _, _ => false
theorem mapO_ok {f : AH → A → Option PyData} {P : A → Bool} (hf : ∀ a, P a = true → ∃ d, (∀ h, f h a = some d) ∧ d.canLay0 = true) : ∀ xs : List A, xs.all P = true → ∃ ds, (∀ h, mapO (f h) xs = some ds) ∧ PyData.canLayAll0 ds = true
  | [], _ => ⟨[], fun _ => rfl, rfl⟩
  | x :: xs, h => by
    rw [List.all_cons, Bool.and_eq_true] at h
    obtain ⟨d, d1, d2⟩ := hf x h.1
    obtain ⟨ds, e1, e2⟩ := mapO_ok hf xs h.2
    refine ⟨d :: ds, fun h => ?_, by rw [PyData.canLayAll0, d2, e2]; rfl⟩
    simp only [mapO, d1, e1]
theorem okD_data : ∀ (n : Nat) (a : A), okD n a = true → ∃ d, (∀ h, dataOf h n a = some d) ∧ d.canLay0 = true
  | n, .non, _ => ⟨.none, fun _ => by cases n <;> rfl, rfl⟩
  | n, .bl b, _ => ⟨.bool b, fun _ => by cases n <;> rfl, rfl⟩
  | n, .int i, _ => ⟨.int i, fun _ => by cases n <;> rfl, rfl⟩
  | n, .str z, h => ⟨.str z, fun _ => by cases n <;> rfl, by
    have : PyData.strOk z = true := by cases n <;> exact h
    simpa [PyData.canLay0] using this⟩
  | 0, .tup _, h => by cases h
  | 0, .lst _, h => by cases h
  | 0, .fro _, h => by cases h
  | n, .loc _, h => by cases n <;> cases h
  | n + 1, .tup xs, h => by
    obtain ⟨ds, e1, e2⟩ := mapO_ok (f := fun h => dataOf h n) (P := okD n) (okD_data n) xs h
    exact ⟨.tuple ds, fun h => by show (mapO (dataOf h n) xs).map PyData.tuple = _; rw [e1 h]; rfl, by simpa [PyData.canLay0] using e2⟩
  | n + 1, .lst xs, h => by
    obtain ⟨ds, e1, e2⟩ := mapO_ok (f := fun h => dataOf h n) (P := okD n) (okD_data n) xs h
    exact ⟨.list ds, fun h => by show (mapO (dataOf h n) xs).map PyData.list = _; rw [e1 h]; rfl, by simpa [PyData.canLay0] using e2⟩
  | n + 1, .fro xs, h => by
    obtain ⟨ds, e1, e2⟩ := mapO_ok (f := fun h => dataOf h n) (P := okD n) (okD_data n) xs h
    exact ⟨.list ds, fun h => by show (mapO (dataOf h n) xs).map PyData.list = _; rw [e1 h]; rfl, by simpa [PyData.canLay0] using e2⟩
theorem eq_refl {h : AH} {a : A} (o : okD 6 a = true) : eqA h a a = some true := by
  obtain ⟨d, e, c⟩ := okD_data 6 a o
  exact eqA_same (e h) (e h) c
theorem data_at {h : AH} {l : Nat} {xs : List A} {d : PyData} (e : h[l]? = some (.lst xs)) (q : dataOf h 6 (.lst xs) = some d) : dataOf h 6 (.loc l) = some d := by
  show (match h[l]? with | some (.lst xs) => (mapO (dataOf h 5) xs).map PyData.list | _ => none) = _
  rw [e]
  exact q
theorem eq_ll {h : AH} {l : Nat} {xs : List A} (e : h[l]? = some (.lst xs)) (o : okD 6 (.lst xs) = true) : eqA h (.lst xs) (.loc l) = some true := by
  obtain ⟨d, q, c⟩ := okD_data 6 _ o
  exact eqA_same (q h) (data_at e (q h)) c
theorem eq_lr {h : AH} {l : Nat} {xs : List A} (e : h[l]? = some (.lst xs)) (o : okD 6 (.lst xs) = true) : eqA h (.loc l) (.lst xs) = some true := by
  obtain ⟨d, q, c⟩ := okD_data 6 _ o
  exact eqA_same (data_at e (q h)) (q h) c
theorem eq_l2 {h : AH} {l m : Nat} {xs : List A} (e : h[l]? = some (.lst xs)) (e2 : h[m]? = some (.lst xs)) (o : okD 6 (.lst xs) = true) : eqA h (.loc l) (.loc m) = some true := by
  obtain ⟨d, q, c⟩ := okD_data 6 _ o
  exact eqA_same (data_at e (q h)) (data_at e2 (q h)) c
theorem str_okN {z : Str} (h : isName z = true) : PyData.strOk z = true := by
  simp [isName] at h
  unfold PyData.strOk
  rw [Array.all_eq_true]
  intro i hi
  have := h.2 i hi
  simp
  omega
theorem str_okT {z : Str} (h : isText z = true) : PyData.strOk z = true := by
  simp [isText] at h
  unfold PyData.strOk
  rw [Array.all_eq_true]
  intro i hi
  have := h.2 i hi
  simp
  omega
theorem rw_ok {w : Str} (h : Rw w) : PyData.strOk w = true := by
  rcases h with rfl | rfl | rfl | rfl | rfl | rfl <;> decide +kernel
theorem wd_ok {w : Str} (h : Wd w) : PyData.strOk w = true := by
  rcases h with rfl | rfl | rfl | rfl | rfl <;> decide +kernel
theorem addr_name {rs : List (Str × Str)} (G : RoadsOk rs) {z : Str} (h : (getL z rs).isSome = true) : isName z = true := by
  obtain ⟨x, hx⟩ := Option.isSome_iff_exists.mp h
  exact G.name _ (getL_some hx)
theorem okD_ints {α : Type} (n : Nat) (f : α → Int) (xs : List α) : (xs.map fun x => A.int (f x)).all (okD n) = true := by
  rw [List.all_map, List.all_eq_true]
  intro x _
  show okD n (.int _) = true
  cases n <;> rfl
theorem okD_rows {st : CS} (w : ∀ r ∈ st.rows, Rw r.2.2) : okD 6 (.lst (st.rows.map rowA)) = true := by
  show (st.rows.map rowA).all (okD 5) = true
  rw [List.all_map, List.all_eq_true]
  intro r hr
  have := rw_ok (w r hr)
  simp [rowA, okD, this]
theorem okD_nums (m : Nat) : okD 6 (.lst (nums m)) = true := okD_ints 5 _ _
theorem okD_due (xs : List Nat) : okD 6 (.lst (xs.map numA)) = true := okD_ints 5 (fun (i : Nat) => (i : Int) + 1) _
theorem mark_ok : ∀ i, i < 31 → PyData.strOk (markOf i) = true := by decide +kernel
theorem okD_out {st : CS} (w : WG st) {i : Nat} {c : Cal} (hc : st.calls[i]? = some c) : okD 6 (outA st i c) = true := by
  have o := w.call c (List.mem_of_getElem? hc)
  have hi : i < st.calls.length := (List.getElem?_eq_some_iff.mp hc).1
  have n := w.n30
  have m := mark_ok i (by omega)
  have e := str_okN (addr_name w.roads (end_addr w.roads o.goal))
  have k := str_okN o.key
  have t := str_okT o.text
  simp [outA, okD, numA, m, e, k, t]
theorem okD_ref (c : Str) (h : PyData.strOk c = true) : okD 6 (refA c) = true := by
  have : PyData.strOk (Str.ofString "refused") = true := by decide +kernel
  simp [refA, okD, h, this]
theorem okD_do {st : CS} (w : WG st) (d : Dd) : okD 6 (doS st d).1 = true := by
  have r1 := okD_ref "BadName" (by decide +kernel)
  have r2 := okD_ref "BadCall" (by decide +kernel)
  have r3 := okD_ref "Full" (by decide +kernel)
  cases d with
  | send k g t =>
    simp only [doS, sendD]
    split
    · split
      · exact r3
      · rfl
    · exact r1
  | att =>
    simp only [doS, tryS]
    split
    · rfl
    · split
      · rename_i hc
        exact okD_out w hc
      · rfl
  | tick m => rfl
  | lead a b =>
    simp only [doS, leadD]
    split
    · rfl
    · exact r1
  | add a =>
    simp only [doS, addD]
    split
    · exact r1
    · rfl
  | hand x num g =>
    simp only [doS, handD]
    split
    · split
      · unfold handS
        split
        · split
          · rfl
          · exact r2
        · split
          · split
            · rfl
            · exact r2
          · split
            · split
              · split
                · rfl
                · exact r2
              · exact r1
            · split
              · rfl
              · exact r2
      · exact r2
    · exact r2
end MC

namespace MC
open PySem L2 MI MT
section
variable {Pg : Prog} {cf : Str → List A → AH → R A}
def keysA (kvs : List (Key × A)) : List A := kvs.map fun p => keyV p.1
theorem keyAt_of {h : AH} {l : Nat} {kvs : List (Key × A)} (e : h[l]? = some (.dic true kvs)) (i : Nat) : keyAt h l i = some (keysA kvs)[i]? := by
  simp [keyAt, e, keysA]
theorem it_dict {h : AH} {l : Nat} {kvs : List (Key × A)} (e : h[l]? = some (.dic false kvs)) : itA (.loc l) h = some ⟨fun i h => keyAt h l i, kvs.length + 1, some l⟩ := by simp [e]
theorem lock_dict {h : AH} {l : Nat} {kvs : List (Key × A)} (e : h[l]? = some (.dic false kvs)) : lockH (.loc l) h = h.set l (.dic true kvs) := by simp [e]
theorem lk_dict {h : AH} {l : Nat} {kvs : List (Key × A)} (e : h[l]? = some (.dic false kvs)) : lkOk h (some l) = true := by simp [lkOk, e]
theorem fr_lock {h : AH} {l : Nat} (x : AO) : Fr (fun y => y = l) h (h.set l x) := Fr.set h x rfl
theorem fr_unlock {F : Nat → Prop} {h h' : AH} {l : Nat} {o : AO} (e : h[l]? = some o) (f : Fr (fun y => F y ∨ y = l) h h') : Fr F h (h'.set l o) := by
  refine ⟨by rw [List.length_set]; exact f.1, fun m hm hn => ?_⟩
  by_cases q : l = m
  · subst q
    rw [List.getElem?_set_self (by have := f.1; omega), e]
  · rw [List.getElem?_set_ne q]
    exact f.2 m hm (fun z => z.elim hn (fun y => q y.symm))
/-- a comprehension over a dict's keys -/
theorem comp_dict {a el : E} {tg : Tg} {ifs : Es} {own : List Nat} {s : ASt} {h : AH} {l : Nat} {kvs : List (Key × A)} (F : Nat → Prop) (ea : evE Pg cf a s h = .ok (.loc l) h) (e0 : h[l]? = some (.dic false kvs)) (hs : kvs.length ≤ 100000) (g : A → Option A)
    (hb : ∀ x ∈ keysA kvs, ∀ h', Fr (fun y => F y ∨ y = l) h h' → h'[l]? = some (.dic true kvs) → ∃ h'', compB Pg cf el tg ifs own s x h' = .ok (g x) h'' ∧ Fr (fun y => F y ∨ y = l) h h'' ∧ h''[l]? = some (.dic true kvs)) :
    ∃ h', evE Pg cf (.comp false el tg (.seq a) ifs own) s h = .ok (.lst ((keysA kvs).filterMap g)) h' ∧ Fr F h h' := by
  have hl := lt_of_get e0
  have kl : (keysA kvs).length = kvs.length := by simp [keysA]
  obtain ⟨h1, e1, f1, l1⟩ := comp_inv (nx := fun i h => keyAt h l i) (bd := compB Pg cf el tg ifs own s) (xs := keysA kvs) (g := g) (fun h' => Fr (fun y => F y ∨ y = l) h h' ∧ h'[l]? = some (.dic true kvs)) (fun i h' p => keyAt_of p.2 i)
    (fun x hx h' p => hb x hx h' p.1 p.2) (by omega) (h.set l (.dic true kvs)) ⟨(fr_lock _).wk fun _ _ q => .inr q, List.getElem?_set_self hl⟩
  rw [kl] at e1
  refine ⟨h1.set l (.dic false kvs), ?_, fr_unlock e0 f1⟩
  rw [evE_comp, evI_seq, ea]
  simp only [bind_ok, it_dict e0, lock_dict e0, of_some, lk_dict e0, if_true]
  rw [e1]
  simp [newL, MI.R.un, unlk, l1]
/-- a for over a dict's keys -/
theorem fo_dict {t : Tg} {b : Ss} {a : E} {s : ASt} {h : AH} {l : Nat} {kvs : List (Key × A)} (F : Nat → Prop) (Inv : Nat → ASt → AH → Prop) (ea : evE Pg cf a s h = .ok (.loc l) h) (e0 : h[l]? = some (.dic false kvs)) 
    (h0 : Inv 0 s (h.set l (.dic true kvs)))
    (go : ∀ (i : Nat) (x : A) (s : ASt) (h' : AH), (keysA kvs)[i]? = some x → Inv i s h' → Fr (fun y => F y ∨ y = l) h h' → h'[l]? = some (.dic true kvs) → Goes (forB Pg cf t b x s h') (fun s2 h2 => Inv (i + 1) s2 h2 ∧ Fr (fun y => F y ∨ y = l) h h2 ∧ h2[l]? = some (.dic true kvs))) :
    ∃ s' h1, evS Pg cf (.fo t (.seq a) b) s h = .nx s' (h1.set l (.dic false kvs)) ∧ Inv kvs.length s' h1 ∧ Fr F h (h1.set l (.dic false kvs)) ∧ h1[l]? = some (.dic true kvs) := by
  have hl := lt_of_get e0
  have kl : (keysA kvs).length = kvs.length := by simp [keysA]
  obtain ⟨s', h1, e1, i1, f1, l1⟩ := for_list (nx := fun i h => keyAt h l i) (bd := forB Pg cf t b) (xs := keysA kvs) (s := s) (h := h.set l (.dic true kvs)) (fun i s h' => Inv i s h' ∧ Fr (fun y => F y ∨ y = l) h h' ∧ h'[l]? = some (.dic true kvs))
    (fun i s h' _ p => keyAt_of p.2.2 i) (fun i x s h' hx p => go i x s h' hx p.1 p.2.1 p.2.2) ⟨h0, (fr_lock _).wk fun _ _ q => .inr q, List.getElem?_set_self hl⟩
  rw [kl] at e1 i1
  refine ⟨s', h1, ?_, i1, fr_unlock e0 f1, l1⟩
  rw [evS_fo, evI_seq, ea]
  simp only [bind_ok, it_dict e0, lock_dict e0, of_some, lk_dict e0, if_true, toF_ok]
  rw [e1]
  simp [MI.F.un, unlk, l1]
end
end MC

namespace MC
open PySem L2 MI MT
def f__law_like : Fn := ⟨2, 7,
  (.cons (.ife (.or (.cmp .NotEq (.meth (.var 0) "now" .nil) (.ix (.var 1) (.con (.str "now")))) (.or (.cmp .NotEq (.meth (.var 0) "log" .nil) (.ix (.var 1) (.con (.str "log")))) (.cmp .NotEq (.meth (.var 0) "due" .nil) (.call "_law_due" (.cons (.var 1) .nil))))) (.cons (.ret (.con (.bl false)))
    .nil) .nil)
  (.cons (.ife (.cmp .NotEq (.meth (.var 0) "numbers" .nil) (.lrg (.con (.int 1)) (.bin .Add (.bi .len (.cons (.ix (.var 1) (.con (.str "calls"))) .nil)) (.con (.int 1))))) (.cons (.ret (.con (.bl false)))
    .nil) .nil)
  (.cons (.fo (.tp (.cons (.nm 2) (.cons (.nm 3) .nil))) (.enu (.ix (.var 1) (.con (.str "calls")))) (.cons (.ife (.or (.cmp .NotEq (.meth (.var 0) "state" (.cons (.bin .Add (.var 2) (.con (.int 1))) .nil)) (.ix (.var 3) (.con (.str "word")))) (.cmp .NotEq (.meth (.var 0) "tries" (.cons (.bin .Add (.var 2) (.con (.int 1))) .nil)) (.ix (.var 3) (.con (.str "many"))))) (.cons (.ret (.con (.bl false)))
      .nil) .nil)
    (.cons (.asg (.nm 4) (.bm (.dic (.cons (.con (.str "waits")) (.cons (.ix (.var 3) (.con (.str "time"))) (.cons (.con (.str "tried")) (.cons (.bin .Add (.ix (.var 3) (.con (.str "time"))) (.ix (.ix (.var 1) (.con (.str "rule"))) (.con (.int 4)))) .nil))))) .get (.cons (.ix (.var 3) (.con (.str "word"))) (.cons (.con .non) .nil))))
    (.cons (.ife (.cmp .NotEq (.meth (.var 0) "time_of" (.cons (.bin .Add (.var 2) (.con (.int 1))) .nil)) (.var 4)) (.cons (.ret (.con (.bl false)))
      .nil) .nil)
    .nil))))
  (.cons (.ret (.bi .all (.cons (.comp false (.cmp .Eq (.meth (.var 0) "end_of" (.cons (.var 5) .nil)) (.call "_law_real" (.cons (.var 1) (.cons (.var 5) .nil)))) (.nm 5) (.seq (.ix (.var 1) (.con (.str "roads")))) .nil [6, 5]) .nil)))
  .nil))))⟩
class PLike (Pg : Prog) : Prop extends PNow Pg, PLog Pg, PState Pg, PTries Pg, PTimeOf Pg, POwn Pg where
  h__law_like : Pg.fns.lookup ("_law_like" : Str) = some f__law_like
section
variable {Pg : Prog}
theorem c__law_like [PLike Pg] (n : Nat) (as : List A) (h : AH) : callF Pg (n + 1) "_law_like" as h = runFn Pg (callF Pg n) f__law_like as h := callF_at PLike.h__law_like as h
end
end MC

namespace MC
open PySem L2 MI MT
section
variable {Pg : Prog} {h : AH} {L M : Lay} {st : CS}
/-- .. of dicts that may be locked -/
theorem s_realG [POwn Pg] (n : Nat) {c r : Nat} {x0 x1 x3 x4 : A} {b : Bool} {rs : List (Str × Str)} (oc : h[c]? = some (.dic false (ownD x0 x1 (.loc r) x3 x4))) (or_ : h[r]? = some (.dic b (dm A.str rs))) (G : RoadsOk rs) {z : Str} (hz : (getL z rs).isSome = true) : callF Pg (n + 1) "_law_real" [.loc c, .str z] h = .ok (.str (endF rs 6 z)) h := by
  obtain ⟨p, hp⟩ := G.path z hz
  have hl := hp.len
  have h5 := G.len
  have key : ∀ (f : Nat) (y : Str) (q : List Str), Path rs y q → q.length ≤ f →
      whileL (evE Pg (callF Pg n) (.cmp .NotEq (.ix (.ix (.var 0) (.con (.str "roads"))) (.var 1)) (.var 1))) (evSs Pg (callF Pg n) (.cons (.asg (.nm 1) (.ix (.ix (.var 0) (.con (.str "roads"))) (.var 1))) .nil)) f [some (.loc c), some (.str y)] h = .nx [some (.loc c), some (.str (q.getLastD y))] h := by
    intro f
    induction f with
    | zero => intro y q hq h1; exact absurd (List.length_eq_zero_iff.mp (Nat.le_zero.mp h1)) hq.ne
    | succ f ih =>
      intro y q hq h1
      cases hq with
      | stop e =>
        simp only [whileL]
        simp [oc, or_, getK_dm, e]
      | @step _ m q e ne g =>
        have r := ih m q g (by simp at h1; omega)
        obtain ⟨q', rfl⟩ := g.head
        have el : (y :: m :: q').getLastD y = (m :: q').getLastD m := by simp [List.getLastD]
        rw [el, ← r]
        conv => lhs; unfold whileL
        have ne' : ¬ m = y := ne
        simp [oc, or_, getK_dm, e, ne']
  rw [c__law_real]
  have r := key 1000 z p hp (by omega)
  have e : endF rs 6 z = p.getLastD z := hp.endF 6 (by omega)
  rw [e]
  simp only [f__law_real]
  simp [r]
theorem keys_dm (rs : List (Str × Str)) : keysA (dm A.str rs) = rs.map fun p => A.str p.1 := by
  unfold keysA dm
  rw [List.map_map]
  rfl
theorem mem_addr {rs : List (Str × Str)} {p : Str × Str} (h : p ∈ rs) : (getL p.1 rs).isSome = true := by
  rw [getL_isSome, List.any_eq_true]
  exact ⟨p, h, by simp⟩
/-- two callers apart -/
def Apart (L M : Lay) : Prop := ∀ x, L.F x → ¬ M.F x
theorem like_roads [PLike Pg] (n : Nat) (R : Rep h L st) (O : RepO h M st) (D : Apart L M) (G : RoadsOk st.roads) {s : ASt} (sl : s.length = 7) (s0 : s[0]? = some (some (.loc L.c))) (s1 : s[1]? = some (some (.loc M.c))) :
    ∃ h', evE Pg (callF Pg (n + 4)) (.comp false (.cmp .Eq (.meth (.var 0) "end_of" (.cons (.var 5) .nil)) (.call "_law_real" (.cons (.var 1) (.cons (.var 5) .nil)))) (.nm 5) (.seq (.ix (.var 1) (.con (.str "roads")))) .nil [6, 5]) s h = .ok (.lst (st.roads.map fun _ => A.bl true)) h' ∧ Fr No h h' := by
  have rl := G.len
  obtain ⟨h', e, f⟩ := comp_dict (Pg := Pg) (cf := callF Pg (n + 4)) (el := .cmp .Eq (.meth (.var 0) "end_of" (.cons (.var 5) .nil)) (.call "_law_real" (.cons (.var 1) (.cons (.var 5) .nil)))) (tg := .nm 5) (ifs := .nil) (own := [6, 5]) (a := .ix (.var 1) (.con (.str "roads"))) (s := s) (h := h) No (by simp [s1, O.oc]) O.or_ (by rw [dm_len]; omega) (fun _ => some (.bl true)) (fun x hx h1 f1 l1 => by
      rw [keys_dm] at hx
      obtain ⟨p, hp, rfl⟩ := List.mem_map.mp hx
      have ad := mem_addr hp
      have nc : L.c ≠ M.r := fun z => D _ (.inl rfl) (.inr (.inl z))
      have R1 : Rep h1 L st := R.fr f1 fun y hy q => q.elim id (fun z => D y hy (.inr (.inl z)))
      have oc1 : h1[M.c]? = _ := f1.get O.oc (fun q => q.elim id (fun z => O.cr z))
      obtain ⟨g, eg⟩ := s_end_of (Pg := Pg) n R1 G ad
      have rl := s_realG (Pg := Pg) (n + 3) (get_app (g := [.lst g]) oc1) (get_app (g := [.lst g]) l1) G ad
      have ee : endF st.roads 6 p.1 = endOf st p.1 := rfl
      rw [ee] at rl
      have h5 : 5 < s.length := by omega
      refine ⟨h1 ++ [.lst g], ?_, f1.trans (Fr.app _ _ _), get_app l1⟩
      simp [List.getElem?_set, h5, s0, s1, R1.oc, eg, rl])
  refine ⟨h', ?_, f⟩
  rw [e, keys_dm, List.filterMap_map]
  congr 2
  generalize st.roads = xs
  induction xs with
  | nil => rfl
  | cons x xs ih => rw [List.filterMap_cons]; simp [ih]
def mk2 (a b : A) : List (Key × A) := mkDic [(.inr "waits", a), (.inr "tried", b)]
theorem mk2_waits (a b : A) : getK (.inr (Str.ofString "waits") : Key) (mk2 a b) = some a := by kernel_rfl
theorem mk2_tried (a b : A) : getK (.inr (Str.ofString "tried") : Key) (mk2 a b) = some b := by kernel_rfl
theorem mk2_done (a b : A) : getK (.inr (Str.ofString "done") : Key) (mk2 a b) = none := by kernel_rfl
theorem mk2_put (a b : A) : getK (.inr (Str.ofString "put by") : Key) (mk2 a b) = none := by kernel_rfl
theorem mk2_gone (a b : A) : getK (.inr (Str.ofString "gone") : Key) (mk2 a b) = none := by kernel_rfl
theorem mk2_time (st : CS) (c : Cal) (hw : Wd c.word) : (getK (.inr c.word : Key) (mk2 (.int c.time) (.int (c.time + st.ru.r4)))).getD .non = timeA st c := by
  unfold timeA
  rcases hw with e | e | e | e | e <;> rw [e] <;> simp [mk2_waits, mk2_tried, mk2_done, mk2_put, mk2_gone]
theorem mk2_eq (a b : A) : mkDic [(.inr "waits", a), (.inr "tried", b)] = mk2 a b := rfl
theorem okD_time (st : CS) (c : Cal) : okD 6 (timeA st c) = true := by
  unfold timeA
  split
  · rfl
  · split <;> rfl
def kb : Ss := f__law_like.body
def kc : Ss := bodyS (nthS 2 kb)
theorem enu_at {h : AH} {l : Nat} {xs : List A} (e : h[l]? = some (.lst xs)) (i : Nat) : (enuA (.loc l) xs.length).nx i h = some (xs[i]?.map fun x => .tup [.int i, x]) := by simp only [enuA, listAt, e]
theorem like_calls [PLike Pg] (n : Nat) (R : Rep h L st) (O : RepO h M st) (w : WG st) {s : ASt} (sl : s.length = 7) (s0 : s[0]? = some (some (.loc L.c))) (s1 : s[1]? = some (some (.loc M.c))) :
    ∃ s' h', evS Pg (callF Pg (n + 4)) (nthS 2 kb) s h = .nx s' h' ∧ s'.length = 7 ∧ s'[0]? = some (some (.loc L.c)) ∧ s'[1]? = some (some (.loc M.c)) ∧ Fr No h h' := by
  have ln : (M.ls.map A.loc).length = st.calls.length := by simp [O.len]
  have xl : ((List.range st.calls.length).map fun (j : Nat) => A.tup [.int (j : Int), .loc (M.ls.getD j 0)]).length = st.calls.length := by simp
  obtain ⟨s', h', e1, i1, i2, i3, i4⟩ := for_list (nx := (enuA (.loc M.k) (M.ls.map A.loc).length).nx) (xs := (List.range st.calls.length).map fun (j : Nat) => A.tup [.int (j : Int), .loc (M.ls.getD j 0)]) (bd := forB Pg (callF Pg (n + 4)) (.tp (.cons (.nm 2) (.cons (.nm 3) .nil))) kc) (s := s) (h := h)
    (fun _ s h' => s.length = 7 ∧ s[0]? = some (some (.loc L.c)) ∧ s[1]? = some (some (.loc M.c)) ∧ Fr No h h') (fun i s h1 hi I => by
      rw [enu_at (I.2.2.2.getN O.ok)]
      by_cases q : i < M.ls.length
      · have q2 : i < st.calls.length := by rw [← O.len]; exact q
        simp [q, q2]
      · have q2 : ¬ i < st.calls.length := by rw [← O.len]; exact q
        simp [q, q2]) (fun j x s h1 hx I => by
      obtain ⟨sl, s0, s1, f⟩ := I
      have hj : j < st.calls.length := by have := (List.getElem?_eq_some_iff.mp hx).1; rwa [xl] at this
      obtain ⟨l, d, q1, q2, q3⟩ := O.pick hj
      have gd : M.ls.getD j 0 = l := by simp [List.getD, q1]
      have ex : x = .tup [.int (j : Int), .loc l] := by
        rw [List.getElem?_map] at hx
        simp only [List.getElem?_range hj, Option.map_some, Option.some.injEq, gd] at hx
        exact hx.symm
      subst ex
      have R1 : Rep h1 L st := R.fr f fun _ _ => id
      have O1 : RepO h1 M st := O.fr f fun _ _ => id
      have q4 : h1[l]? = _ := f.getN q3
      have o := w.call d (List.mem_of_getElem? q2)
      have es := s_state (Pg := Pg) (n + 1) R1 q2
      have et := s_tries (Pg := Pg) (n + 1) R1 q2
      have R2 := R1.app [.dic false (mk2 (.int d.time) (.int (d.time + st.ru.r4)))]
      have em := s_time_of (Pg := Pg) (n + 1) R2 q2
      have tm := mk2_time st d o.word
      have eq := eq_refl (h := h1 ++ [.dic false (mk2 (.int d.time) (.int (d.time + st.ru.r4)))]) (okD_time st d)
      have h2 : 2 < s.length := by omega
      have h3 : 3 < s.length := by omega
      have h4 : 4 < s.length := by omega
      simp only [numA] at es et em
      simp only [calD] at q4
      refine ⟨((s.set 2 (some (.int j))).set 3 (some (.loc l))).set 4 (some (timeA st d)), h1 ++ [.dic false (mk2 (.int d.time) (.int (d.time + st.ru.r4)))], .inl ?_, by simp [sl], by simp [List.getElem?_set, s0], by simp [List.getElem?_set, s1], f.trans (Fr.app _ _ _)⟩
      have g1 : ∀ x : AO, (h1 ++ [x])[L.c]? = _ := fun x => get_app R1.oc
      have g2 : ∀ x : AO, (h1 ++ [x])[M.c]? = _ := fun x => get_app O1.oc
      have g3 : ∀ x : AO, (h1 ++ [x])[l]? = _ := fun x => get_app q4
      generalize timeA st d = ta at *
      simp only [forB_eq, kc, kb, nthS, dropS, tlS, hdS, bodyS, f__law_like]
      simp [List.getElem?_set, h2, h3, h4, s0, s1, R1.oc, O1.oc, q4, es, et, dicPut, pairsA, mk2_eq, tm, g1, g2, g3, em, eq, evGs_cons]) ⟨sl, s0, s1, Fr.refl _ _⟩
  rw [xl] at e1
  refine ⟨s', h', ?_, i1, i2, i3, i4⟩
  have ok := O.ok
  have ei : evI Pg (callF Pg (n + 4)) (.enu (.ix (.var 1) (.con (.str "calls")))) s h = .ok (enuA (.loc M.k) (M.ls.map A.loc).length) h := by
    generalize M.ls.map A.loc = AL at ok
    simp [s1, O.oc, ok]
  have e0 : nthS 2 kb = .fo (.tp (.cons (.nm 2) (.cons (.nm 3) .nil))) (.enu (.ix (.var 1) (.con (.str "calls")))) kc := rfl
  rw [e0]
  refine fo_at (nx := (enuA (.loc M.k) (M.ls.map A.loc).length).nx) (m := st.calls.length + 1) ?_ e1
  rw [ei, ← ln]
  rfl
theorem all_true {α : Type} (xs : List α) : boolsA (xs.map fun _ => A.bl true) = some (xs.map fun _ => true) := boolsA_map (fun _ => true) xs
theorem s_like [PLike Pg] (n : Nat) (R : Rep h L st) (O : RepO h M st) (D : Apart L M) (w : WG st) : ∃ h', callF Pg (n + 6) "_law_like" [.loc L.c, .loc M.c] h = .ok (.bl true) h' ∧ Fr No h h' := by
  rw [c__law_like]
  have nw := s_now (Pg := Pg) (n + 4) R
  have lg := s_log (Pg := Pg) (n + 4) R
  have le := eq_ll O.ow (okD_rows w.rows)
  obtain ⟨h1, d1, d2, d3⟩ := s_due (Pg := Pg) n R w.n30 w.roads w.wf.goal
  have R1 : Rep h1 L st := R.fr d3 fun _ _ => id
  have O1 : RepO h1 M st := O.fr d3 fun _ _ => id
  have ld := s_ldue (Pg := Pg) (n + 2) O1 w.n30 w.roads w.wf.goal
  have de := eq_lr d2 (okD_due (dueL st))
  have e0 : evS Pg (callF Pg (n + 5)) (nthS 0 kb) [some (.loc L.c), some (.loc M.c), none, none, none, none, none] h = .nx [some (.loc L.c), some (.loc M.c), none, none, none, none, none] h1 := by
    have ow := O.ow
    generalize (dueL st).map numA = DL at *
    generalize st.rows.map rowA = RL at *
    simp [nthS, dropS, tlS, hdS, kb, f__law_like, R.oc, O.oc, nw, lg, le, d1, ld, de]
  have nm := s_numbers (Pg := Pg) (n + 4) R1 (by have := w.n30; omega)
  have ln : (M.ls.map A.loc).length = st.calls.length := by simp [O.len]
  have n30 := w.n30
  have lr : lrgA 1 ((st.calls.length : Int) + 1) = some (.lst (nums st.calls.length)) := by
    unfold lrgA
    rw [if_pos (by simp; omega)]
    have : ((st.calls.length : Int) + 1 - 1).toNat = st.calls.length := by omega
    rw [this]
    congr 2
    unfold nums
    refine List.map_congr_left fun k _ => ?_
    congr 1
    omega
  have ne := eq_refl (h := h1) (okD_nums st.calls.length)
  have e1 : evS Pg (callF Pg (n + 5)) (nthS 1 kb) [some (.loc L.c), some (.loc M.c), none, none, none, none, none] h1 = .nx [some (.loc L.c), some (.loc M.c), none, none, none, none, none] h1 := by
    have ok := O1.ok
    generalize M.ls.map A.loc = AL at *
    generalize nums st.calls.length = NL at *
    simp [nthS, dropS, tlS, hdS, kb, f__law_like, R1.oc, O1.oc, ok, nm, ln, lr, ne]
  obtain ⟨s2, h2, e2, i1, i2, i3, f2⟩ := like_calls (Pg := Pg) (n + 1) R1 O1 w (s := [some (.loc L.c), some (.loc M.c), none, none, none, none, none]) rfl rfl rfl
  have R2 : Rep h2 L st := R1.fr f2 fun _ _ => id
  have O2 : RepO h2 M st := O1.fr f2 fun _ _ => id
  obtain ⟨h3, e3, f3⟩ := like_roads (Pg := Pg) (n + 1) R2 O2 D w.roads i1 i2 i3
  refine ⟨h3, ?_, d3.trans (f2.trans f3)⟩
  have e4 : evSs Pg (callF Pg (n + 5)) (dropS 3 kb) s2 h2 = .rt (.bl true) h3 := by
    simp only [dropS, tlS, kb, f__law_like, evSs_cons, evS_ret, evE_bi, evEs_cons, evEs_nil]
    rw [e3]
    simp [biOp, listAt, all_true]
  exact run_at (fn := f__law_like) (r := .rt (.bl true) h3) rfl ((step_at (ss := kb) (n := 0) rfl e0).trans ((step_at rfl e1).trans ((step_at rfl e2).trans e4)))
end
end MC

namespace MC
open PySem L2 MI MT
theorem pick_b (hi c e d : Int) (h : 1 ≤ hi) (hc : 1 ≤ c) (he : 1 ≤ e) : 1 ≤ (if hi < pick4 1 hi c e d then hi else pick4 1 hi c e d) ∧ (if hi < pick4 1 hi c e d then hi else pick4 1 hi c e d) ≤ hi := by
  unfold pick4
  omega
section
variable {Pg : Prog}
theorem s_lrule [PLRule Pg] (n : Nat) (more : Int) (h : AH) : ∃ (r : Ru) (x : AO), r.ok ∧ callF Pg (n + 2) "_law_rule" [.int more] h = .ok (ruA r) (h ++ [x]) := by
  rw [c__law_rule]
  simp [f__law_rule, s_drawn, enuA, zipL, at_pick4, forL_succ, MT.compL_succ, newL]
  refine ⟨⟨_, _, _, _, _, _⟩, ?_, rfl⟩
  exact ⟨pick_b 9 _ _ _ (by omega) (by omega) (by omega), pick_b 3 _ _ _ (by omega) (by omega) (by omega), pick_b 60 _ _ _ (by omega) (by omega) (by omega), pick_b 5 _ _ _ (by omega) (by omega) (by omega), pick_b 20 _ _ _ (by omega) (by omega) (by omega), pick_b 3 _ _ _ (by omega) (by omega) (by omega)⟩
end
end MC

namespace Lk20
open PySem MI MC
instance i_PNames : PNames Pg where
  h_is_name := by kernel_rfl
  h_need_name := by kernel_rfl
  h_is_text := by kernel_rfl
  h_need_text := by kernel_rfl
instance i_PRules : PRules Pg where
  h_is_count := by kernel_rfl
  h_need_rule := by kernel_rfl
  h_wait_of := by kernel_rfl
instance i_PCaller : PCaller Pg where
  h_Call___init__ := by kernel_rfl
  h_Caller___init__ := by kernel_rfl
  h_Caller_say := by kernel_rfl
  h_Caller_need_address := by kernel_rfl
  h_Caller_add_address := by kernel_rfl
  h_Caller_road := by kernel_rfl
  h_Caller_end_of := by kernel_rfl
  h_Caller_call := by kernel_rfl
  h_Caller_numbers := by kernel_rfl
  h_Caller_send := by kernel_rfl
  h_Caller_is_first := by kernel_rfl
  h_Caller_busy := by kernel_rfl
  h_Caller_due := by kernel_rfl
  h_Caller_begin := by kernel_rfl
  h_Caller_attempt := by kernel_rfl
  h_Caller_fail := by kernel_rfl
  h_Caller_answer := ⟨"WORDS", by kernel_rfl⟩
  h_Caller_tick := ⟨"MOST_TICKS", by kernel_rfl⟩
  k_Call := by kernel_rfl
  k_Caller := by kernel_rfl
instance i_PNow : PNow Pg where
  h_Caller_now := by kernel_rfl
instance i_PLog : PLog Pg where
  h_Caller_log := by kernel_rfl
instance i_PLead : PLead Pg where
  h_Caller_lead := by kernel_rfl
instance i_PState : PState Pg where
  h_Caller_state := by kernel_rfl
instance i_PTries : PTries Pg where
  h_Caller_tries := by kernel_rfl
instance i_PTimeOf : PTimeOf Pg where
  h_Caller_time_of := by kernel_rfl
instance i_PGoOn : PGoOn Pg where
  h_Caller_go_on := by kernel_rfl
instance i_PDrop : PDrop Pg where
  h_Caller_drop := by kernel_rfl
instance i_PChange : PChange Pg where
  h_Caller_change := by kernel_rfl
instance i_PDraw : PDraw Pg where
  h__law_cell := by kernel_rfl
  h__law_drawn := by kernel_rfl
instance i_PLRule : PLRule Pg where
  h__law_rule := by kernel_rfl
instance i_PAny : PAny Pg where
  h__law_any_name := by kernel_rfl
  h__law_any_text := by kernel_rfl
instance i_POwn : POwn Pg where
  h__law_wait := by kernel_rfl
  h__law_own := by kernel_rfl
  h__law_real := by kernel_rfl
  h__law_may := by kernel_rfl
  h__law_due := by kernel_rfl
  h__law_fail := by kernel_rfl
  h__law_send := by kernel_rfl
  h__law_try := by kernel_rfl
  h__law_tick := by kernel_rfl
  h__law_hand := by kernel_rfl
  h__law_lead := by kernel_rfl
  h__law_own_does := by kernel_rfl
instance i_PDoes : PDoes Pg where
  h__law_does := by kernel_rfl
instance i_PDeed : PDeed Pg where
  h__law_deed := by kernel_rfl
instance i_PLike : PLike Pg where
  h__law_like := by kernel_rfl
instance i_PTold : PTold Pg := ⟨by kernel_rfl, by kernel_rfl, by kernel_rfl, by kernel_rfl, by kernel_rfl, by kernel_rfl⟩
end Lk20

namespace MC
open PySem L2 MI MT
/-- all slots but those of X are as they were -/
def Keeps (X : List Nat) (s s' : ASt) : Prop := s'.length = s.length ∧ ∀ i, i ∉ X → s'[i]? = s[i]?
theorem Keeps.refl (X : List Nat) (s : ASt) : Keeps X s s := ⟨rfl, fun _ _ => rfl⟩
theorem Keeps.trans {X : List Nat} {s s1 s2 : ASt} (a : Keeps X s s1) (b : Keeps X s1 s2) : Keeps X s s2 := ⟨b.1.trans a.1, fun i hi => (b.2 i hi).trans (a.2 i hi)⟩
theorem Keeps.set {X : List Nat} (s : ASt) {i : Nat} (v : Option A) (hi : i ∈ X) : Keeps X s (s.set i v) := ⟨by simp, fun j hj => List.getElem?_set_ne (fun z : i = j => hj (z ▸ hi))⟩
theorem Keeps.wk {X Y : List Nat} {s s' : ASt} (a : Keeps X s s') (w : ∀ i ∈ X, i ∈ Y) : Keeps Y s s' := ⟨a.1, fun i hi => a.2 i fun z => hi (w i z)⟩
theorem Keeps.at {X : List Nat} {s s' : ASt} (a : Keeps X s s') {i : Nat} {v : Option A} (hi : i ∉ X) (e : s[i]? = some v) : s'[i]? = some v := (a.2 i hi).trans e
structure Two (h : AH) (L M : Lay) (st : CS) : Prop where
  R : Rep h L st
  O : RepO h M st
  D : Apart L M
  W : WG st
structure Grow2 (L M L' M' : Lay) (h h' : AH) : Prop where
  c : L'.c = L.c
  d : M'.c = M.c
  newL : ∀ x, L'.F x → L.F x ∨ h.length ≤ x
  newM : ∀ x, M'.F x → M.F x ∨ h.length ≤ x
  fr : Fr (fun x => L.F x ∨ M.F x) h h'
theorem Grow2.refl (L M : Lay) (h : AH) : Grow2 L M L M h h := ⟨rfl, rfl, fun _ q => .inl q, fun _ q => .inl q, Fr.refl _ _⟩
theorem Grow2.trans {L M L1 M1 L2 M2 : Lay} {h h1 h2 : AH} (a : Grow2 L M L1 M1 h h1) (b : Grow2 L1 M1 L2 M2 h1 h2) : Grow2 L M L2 M2 h h2 where
  c := b.c.trans a.c
  d := b.d.trans a.d
  newL := fun x hx => by
    rcases b.newL x hx with q | q
    · exact a.newL x q
    · exact .inr (Nat.le_trans a.fr.1 q)
  newM := fun x hx => by
    rcases b.newM x hx with q | q
    · exact a.newM x q
    · exact .inr (Nat.le_trans a.fr.1 q)
  fr := by
    refine ⟨Nat.le_trans a.fr.1 b.fr.1, fun l hl hn => ?_⟩
    rw [b.fr.2 l (Nat.lt_of_lt_of_le hl a.fr.1) (fun q => ?_), a.fr.2 l hl hn]
    rcases q with q | q
    · rcases a.newL l q with z | z
      · exact hn (.inl z)
      · omega
    · rcases a.newM l q with z | z
      · exact hn (.inr z)
      · omega
theorem Grow2.no {L M : Lay} {h h' : AH} (f : Fr No h h') : Grow2 L M L M h h' := ⟨rfl, rfl, fun _ q => .inl q, fun _ q => .inl q, f.no⟩
theorem Two.fr {h h' : AH} {L M : Lay} {st : CS} (T : Two h L M st) (f : Fr No h h') : Two h' L M st := ⟨T.R.fr f fun _ _ => id, T.O.fr f fun _ _ => id, T.D, T.W⟩
theorem Two.frF {F : Nat → Prop} {h h' : AH} {L M : Lay} {st : CS} (T : Two h L M st) (f : Fr F h h') (dl : ∀ x, L.F x → ¬ F x) (dm : ∀ x, M.F x → ¬ F x) : Two h' L M st := ⟨T.R.fr f dl, T.O.fr f dm, T.D, T.W⟩
section
variable {Pg : Prog} {h : AH} {L M : Lay} {st : CS}
/-- the caller first, then the law's own -/
theorem Two.doP [PDoes Pg] [PTold Pg] [POwn Pg] (n m : Nat) (T : Two h L M st) (hp : phi st ≤ 90000) {d : Dd} (hd : d.Ok) :
    ∃ L' M' h1 h2, callF Pg (n + 7) "_law_does" [.loc L.c, d.v] h = .ok (doS st d).1 h1 ∧ callF Pg (m + 5) "_law_own_does" [.loc M.c, d.v] h1 = .ok (doS st d).1 h2 ∧ Two h2 L' M' (doS st d).2 ∧ Grow2 L M L' M' h h2 := by
  obtain ⟨L', h1, e1, R1, g1⟩ := s_does (Pg := Pg) n T.R T.W.wf hp d hd
  have O1 : RepO h1 M st := T.O.fr g1.fr fun x hx q => T.D x q hx
  obtain ⟨M', h2, e2, O2, g2⟩ := s_own_does (Pg := Pg) m O1 T.W.wf hp d hd
  have lm : ∀ x, M.F x → x < h.length := T.O.lt
  have l1 : ∀ x, L'.F x → x < h1.length := R1.lt
  have dj : ∀ x, L'.F x → ¬ M.F x := fun x hx q => by
    rcases g1.new x hx with z | z
    · exact T.D x z q
    · have := lm x q; omega
  refine ⟨L', M', h1, h2, e1, e2, ⟨R1.fr g2.fr fun x hx q => dj x hx q, O2, fun x hx q => ?_, T.W.do hd⟩, ⟨g1.c, g2.c, g1.new, fun x hx => ?_, ?_⟩⟩
  · rcases g2.new x q with z | z
    · exact dj x hx z
    · have := l1 x hx; omega
  · rcases g2.new x hx with z | z
    · exact .inl z
    · exact .inr (Nat.le_trans g1.fr.1 z)
  · exact (g1.fr.wk fun _ _ q => .inl q).trans (g2.fr.wk fun _ _ q => .inr q)
/-- the law's own first, then the caller -/
theorem Two.doO [PDoes Pg] [PTold Pg] [POwn Pg] (n m : Nat) (T : Two h L M st) (hp : phi st ≤ 90000) {d : Dd} (hd : d.Ok) :
    ∃ L' M' h1 h2, callF Pg (m + 5) "_law_own_does" [.loc M.c, d.v] h = .ok (doS st d).1 h1 ∧ callF Pg (n + 7) "_law_does" [.loc L.c, d.v] h1 = .ok (doS st d).1 h2 ∧ Two h2 L' M' (doS st d).2 ∧ Grow2 L M L' M' h h2 := by
  obtain ⟨M', h1, e1, O1, g1⟩ := s_own_does (Pg := Pg) m T.O T.W.wf hp d hd
  have R1 : Rep h1 L st := T.R.fr g1.fr fun x hx q => T.D x hx q
  obtain ⟨L', h2, e2, R2, g2⟩ := s_does (Pg := Pg) n R1 T.W.wf hp d hd
  have lm : ∀ x, L.F x → x < h.length := T.R.lt
  have l1 : ∀ x, M'.F x → x < h1.length := O1.lt
  have dj : ∀ x, M'.F x → ¬ L.F x := fun x hx q => by
    rcases g1.new x hx with z | z
    · exact T.D x q z
    · have := lm x q; omega
  refine ⟨L', M', h1, h2, e1, e2, ⟨R2, O1.fr g2.fr fun x hx q => dj x hx q, fun x hx q => ?_, T.W.do hd⟩, ⟨g2.c, g1.c, fun x hx => ?_, g1.new, ?_⟩⟩
  · rcases g2.new x hx with z | z
    · exact dj x q z
    · have := l1 x q; omega
  · rcases g2.new x hx with z | z
    · exact .inl z
    · exact .inr (Nat.le_trans g1.fr.1 z)
  · exact (g1.fr.wk fun _ _ q => .inr q).trans (g2.fr.wk fun _ _ q => .inl q)
/-- new ones -/
theorem two_new [PCaller Pg] [POwn Pg] (n m : Nat) (h : AH) (r : Ru) (hr : r.ok) : ∃ h1 h2, callF Pg (n + 3) "Caller.__init__" [.loc h.length, ruA r] (h ++ [.ins "Caller" []]) = .ok .non h1 ∧ callF Pg (m + 1) "_law_own" [ruA r] h1 = .ok (.loc h1.length) h2 ∧ Two h2 (layN h.length) (layN h1.length) (newS r) ∧ Fr No h h2 := by
  obtain ⟨h1, e1, R1, l1, f1⟩ := s_Caller (Pg := Pg) n h r hr
  obtain ⟨h2, e2, O2, l2, f2⟩ := s_own (Pg := Pg) m h1 r
  refine ⟨h1, h2, e1, e2, ⟨R1.fr f2 fun _ _ => id, O2, fun x hx q => ?_, WG.new r hr⟩, f1.trans f2⟩
  have a : x < h1.length := R1.lt x hx
  have b : h1.length ≤ x := by
    rcases q with q | q | q | q | q
    · have : x = h1.length := q; omega
    · have : x = h1.length + 1 := q; omega
    · have : x = h1.length + 2 := q; omega
    · have : x = h1.length + 3 := q; omega
    · cases q
  omega
/-- an address comes in both -/
theorem Two.add [PCaller Pg] (n : Nat) (T : Two h L M st) {z : Str} (hz : isName z = true) (hn : getL z st.roads = none) (h5 : st.roads.length < 5) :
    ∃ h1 h2, callF Pg (n + 3) "Caller.add_address" [.loc L.c, .str z] h = .ok .non h1 ∧ h1[M.c]? = some (.dic false (ownD (ruA st.ru) (.int st.clock) (.loc M.r) (.loc M.k) (.loc M.w))) ∧ putS h1 (.loc M.r) (.str z) (.str z) = some h2 ∧ Two h2 L M (addS st z) ∧ Fr (fun x => L.F x ∨ M.F x) h h2 := by
  obtain ⟨h1, e1, R1, f1⟩ := s_add (Pg := Pg) n T.R hz hn h5
  have O1 : RepO h1 M st := T.O.fr f1 fun x hx q => T.D x q hx
  have fr : M.F M.r := .inr (.inl rfl)
  have w : WG (addS st z) := by
    have := T.W.do (d := .add z) hz
    have e : (doS st (.add z)).2 = addS st z := by
      simp only [doS, addD]
      rw [if_neg (by simp [hn]; omega)]
    rwa [e] at this
  have q6 : st.roads.length ≤ 100000 := by omega
  have pk := putKA_dm A.str z z st.roads
  refine ⟨h1, _, e1, O1.oc, ?_, ⟨R1.fr (Fr.set h1 _ fr) fun x hx q => T.D x hx q, O1.setRoads (putL z z st.roads), T.D, w⟩, (f1.wk fun _ _ q => .inl q).trans ((Fr.set h1 _ fr).wk fun _ _ q => .inr q)⟩
  simp [O1.or_, dm_len, q6, pk]
/-- for name in ..: both have it -/
abbrev addB (a b x : Nat) : Ss := .cons (.exp (.meth (.var a) "add_address" (.cons (.var x) .nil))) (.cons (.asg (.sb (.ix (.var b) (.con (.str "roads"))) (.var x)) (.var x)) .nil)
theorem add_loop [PCaller Pg] (n : Nat) {a b x : Nat} {zs : List Str} (hz : ∀ z ∈ zs, isName z = true) (nd : zs.Nodup) (h5 : zs.length ≤ 5) (T : Two h L M st) (c0 : st.calls = []) (r0 : st.roads = []) (w0 : st.rows = []) {s : ASt} (sa : s[a]? = some (some (.loc L.c))) (sb : s[b]? = some (some (.loc M.c))) (hx : x < s.length) (xa : x ≠ a) (xb : x ≠ b) :
    ∃ s' h' st', forL (seqN (zs.map A.str)) (forB Pg (callF Pg (n + 3)) (.nm x) (addB a b x)) ((zs.map A.str).length + 1) 0 s h = .nx s' h' ∧ Keeps [x] s s' ∧ Two h' L M st' ∧ Fr (fun x => L.F x ∨ M.F x) h h' ∧ st'.ru = st.ru ∧ st'.clock = st.clock ∧ st'.calls = [] ∧ st'.rows = [] ∧ st'.roads.length = zs.length ∧ (∀ z, (getL z st'.roads).isSome = true ↔ z ∈ zs) ∧ (∀ p ∈ st'.roads, p.2 = p.1) := by
  have go := for_seq (xs := zs.map A.str) (bd := forB Pg (callF Pg (n + 3)) (.nm x) (addB a b x)) (s := s) (h := h)
    (fun j s' h' => Keeps [x] s s' ∧ ∃ st', Two h' L M st' ∧ Fr (fun x => L.F x ∨ M.F x) h h' ∧ st'.ru = st.ru ∧ st'.clock = st.clock ∧ st'.calls = [] ∧ st'.rows = [] ∧ st'.roads.length = j ∧ (∀ z, (getL z st'.roads).isSome = true ↔ z ∈ zs.take j) ∧ (∀ p ∈ st'.roads, p.2 = p.1))
    ⟨Keeps.refl _ _, st, T, Fr.refl _ _, rfl, rfl, c0, w0, by simp [r0], fun z => by simp [r0, getL], by simp [r0]⟩ (fun j v s1 h1 hv I => by
      obtain ⟨K, st1, T1, f, e0, e1, e2, e3, e4, e5, e6⟩ := I
      rw [List.getElem?_map] at hv
      obtain ⟨z, q, rfl⟩ := Option.map_eq_some_iff.mp hv
      have hj : j < zs.length := (List.getElem?_eq_some_iff.mp q).1
      have hm := List.mem_of_getElem? q
      have hnot : z ∉ zs.take j := fun hc => by
        obtain ⟨i, hi⟩ := List.mem_iff_getElem?.mp hc
        have hij : i < j := by have := (List.getElem?_eq_some_iff.mp hi).1; simp at this; omega
        rw [List.getElem?_take_of_lt hij] at hi
        have := (List.getElem?_inj (by omega) nd).mp (hi.trans q.symm)
        omega
      have hnone : getL z st1.roads = none := by
        rcases eq : getL z st1.roads with _ | y
        · rfl
        · exact absurd ((e5 z).mp (by rw [eq]; rfl)) hnot
      obtain ⟨h2, h3, g1, g2, g3, T3, f3⟩ := T1.add (Pg := Pg) n (hz z hm) hnone (by omega)
      have hx1 : x < s1.length := by rw [K.1]; exact hx
      have sa1 : s1[a]? = _ := K.at (by simpa using fun z : a = x => xa z.symm) sa
      have sb1 : s1[b]? = _ := K.at (by simpa using fun z : b = x => xb z.symm) sb
      have any : (st1.roads.any fun p => decide (p.1 = z)) = false := by rw [← getL_isSome, hnone]; rfl
      refine ⟨s1.set x (some (.str z)), h3, .inl ?_, K.trans (Keeps.set _ _ (by simp)), addS st1 z, T3, f.trans f3, e0, e1, e2, e3, ?_, fun y => ?_, ?_⟩
      · simp [List.getElem?_set, hx1, xa, xb, sa1, sb1, T1.R.oc, g1, g2, g3, -putS_loc]
      · show (putL z z st1.roads).length = j + 1
        unfold putL
        rw [any, if_neg (by decide)]
        simp [e4]
      · show (getL y (putL z z st1.roads)).isSome = true ↔ _
        rw [getL_put, List.take_succ_eq_append_getElem hj]
        have ez : zs[j] = z := by rw [List.getElem?_eq_getElem hj] at q; exact Option.some.inj q
        by_cases qy : y = z
        · simp [qy, ez]
        · simp [qy, ez, e5]
      · show ∀ p ∈ putL z z st1.roads, _
        unfold putL
        rw [any, if_neg (by decide)]
        intro p hp
        rcases List.mem_append.mp hp with u | u
        · exact e6 p u
        · rw [List.mem_singleton.mp u])
  obtain ⟨s', h', e, K, st', T', f, e0, e1, e2, e3, e4, e5, e6⟩ := go
  refine ⟨s', h', st', e, K, T', f, e0, e1, e2, e3, by simpa using e4, fun z => ?_, e6⟩
  have := e5 z
  simpa using this
end
end MC

namespace Lk20
open PySem L2 MI MT MC
def lb : Ss := bodyS (nthS 0 f_law.body)
def lc : Ss := bodyS (nthS 4 lb)
def ld : Ss := bodyS (nthS 5 lb)
def le : Ss := bodyS (nthS 0 ld)
theorem f_law_eq : f_law = ⟨1, 9, .cons (.fo (.nm 1) (rngK 2) lb) (.cons (.ret (.con (.bl true))) .nil)⟩ := rfl
structure Sl (ns : List Int) (s : ASt) (more : Int) (L M : Lay) : Prop where
  len : s.length = 9
  s0 : s[0]? = some (some (.fro (ns.map A.int)))
  s2 : s[2]? = some (some (.int more))
  s6 : s[6]? = some (some (.loc L.c))
  s7 : s[7]? = some (some (.loc M.c))
theorem Sl.keep {ns : List Int} {s s' : ASt} {more : Int} {L M : Lay} (S : Sl ns s more L M) {X : List Nat} (K : Keeps X s s') (hX : ∀ i ∈ X, i ≠ 0 ∧ i ≠ 2 ∧ i ≠ 6 ∧ i ≠ 7) : Sl ns s' more L M := by
  have g : ∀ i, (i = 0 ∨ i = 2 ∨ i = 6 ∨ i = 7) → i ∉ X := fun i hi hm => by have := hX i hm; omega
  exact ⟨K.1.trans S.len, K.at (g 0 (by omega)) S.s0, K.at (g 2 (by omega)) S.s2, K.at (g 6 (by omega)) S.s6, K.at (g 7 (by omega)) S.s7⟩
theorem Sl.lay {ns : List Int} {s : ASt} {more : Int} {L M L' M' : Lay} (S : Sl ns s more L M) (e1 : L'.c = L.c) (e2 : M'.c = M.c) : Sl ns s more L' M' := ⟨S.len, S.s0, S.s2, by rw [e1]; exact S.s6, by rw [e2]; exact S.s7⟩
def names4 : List Str := ["home", "out", "x", "yy"]
theorem names4_ok : ∀ z ∈ names4, isName z = true := by
  intro z hz
  simp only [names4, List.mem_cons, List.not_mem_nil, or_false] at hz
  rcases hz with rfl | rfl | rfl | rfl <;> decide +kernel
theorem names4_nd : names4.Nodup := by decide +kernel
theorem pre (ns : List Int) (hn : ns.length ≤ 63) (i : Nat) (s : ASt) (h : AH) (sl : s.length = 9) (s0 : s[0]? = some (some (.fro (ns.map A.int)))) (s1 : s[1]? = some (some (.int i))) :
    ∃ s' h' more L M st, evSs Pg (callF Pg 9) lb s h = evSs Pg (callF Pg 9) (dropS 4 lb) s' h' ∧ Sl ns s' more L M ∧ Two h' L M st ∧ st.rows = [] ∧ st.calls = [] := by
  obtain ⟨c, ec⟩ := s_cell (Pg := Pg) 8 ns hn i (by omega) h
  have ed := s_drawn (Pg := Pg) 8 c i h
  have dn := drawn_nn c i
  generalize drawn c i = more at ed dn
  have b0 : evS Pg (callF Pg 9) (nthS 0 lb) s h = .nx (s.set 2 (some (.int more))) h := by
    generalize A.fro (ns.map A.int) = sc at *
    simp [nthS, dropS, tlS, hdS, lb, bodyS, f_law, s0, s1, ec, ed]
  obtain ⟨r, x, hr, er⟩ := s_lrule (Pg := Pg) 7 (more / 64) h
  have h2 : 2 < s.length := by omega
  have h3 : 3 < s.length := by omega
  have h6 : 6 < s.length := by omega
  have h7 : 7 < s.length := by omega
  have b1 : evS Pg (callF Pg 9) (nthS 1 lb) (s.set 2 (some (.int more))) h = .nx ((s.set 2 (some (.int more))).set 3 (some (ruA r))) (h ++ [x]) := by
    generalize ruA r = ra at *
    simp [nthS, dropS, tlS, hdS, lb, bodyS, f_law, List.getElem?_set, h2, er]
  obtain ⟨h1, h3', g1, g2, T, _⟩ := two_new (Pg := Pg) 6 8 (h ++ [x]) r hr
  have b2 : evS Pg (callF Pg 9) (nthS 2 lb) ((s.set 2 (some (.int more))).set 3 (some (ruA r))) (h ++ [x]) = .nx ((((s.set 2 (some (.int more))).set 3 (some (ruA r))).set 6 (some (.loc (h ++ [x]).length))).set 7 (some (.loc h1.length))) h3' := by
    generalize ruA r = ra at *
    generalize h ++ [x] = hx at *
    simp [nthS, dropS, tlS, hdS, lb, bodyS, f_law, List.getElem?_set, h2, h3, g1, g2]
  have S : Sl ns ((((s.set 2 (some (.int more))).set 3 (some (ruA r))).set 6 (some (.loc (h ++ [x]).length))).set 7 (some (.loc h1.length))) more (layN (h ++ [x]).length) (layN h1.length) :=
    ⟨by simp [sl], by simp [List.getElem?_set, s0], by simp [List.getElem?_set, h2], by simp [List.getElem?_set, h6, layN], by simp [List.getElem?_set, h7, layN]⟩
  generalize layN (h ++ [x]).length = L at *
  generalize layN h1.length = M at *
  generalize (((s.set 2 (some (.int more))).set 3 (some (ruA r))).set 6 (some (.loc (h ++ [x]).length))).set 7 (some (.loc h1.length)) = s4 at *
  have m0 := Int.emod_nonneg (more / 8) (show (5 : Int) ≠ 0 by decide)
  have m1 := Int.emod_lt_of_pos (more / 8) (show (0 : Int) < 5 by decide)
  obtain ⟨m, hm⟩ := Int.eq_ofNat_of_zero_le m0
  have hm5 : m < 5 := by omega
  obtain ⟨s5, h5, st, e3, K, T5, _, a1, a2, a3, a4, a5, a6, a7⟩ := add_loop (Pg := Pg) 6 (a := 6) (b := 7) (x := 4) (zs := names4.take m) (fun z hz => names4_ok z (List.mem_of_mem_take hz)) (names4_nd.sublist (List.take_sublist _ _)) (by simp [names4]; omega) T rfl rfl rfl (s := s4) S.s6 S.s7 (by rw [S.len]; decide) (by decide) (by decide)
  have ei : evI Pg (callF Pg 9) (.seq (.sl (.lst false (.cons (.con (.str "home")) (.cons (.con (.str "out")) (.cons (.con (.str "x")) (.cons (.con (.str "yy")) .nil))))) .nil (.cons (.bin .Mod (.bin .FloorDiv (.var 2) (.con (.int 8))) (.con (.int 5))) .nil))) s4 h3' = .ok ⟨seqN ((names4.take m).map A.str), ((names4.take m).map A.str).length + 1, none⟩ h3' := by
    have ct : slA h3' (.lst (names4.map A.str)) none (some (more / 8 % 5)) = some (.lst ((names4.take m).map A.str)) := by
      rw [hm]
      simp only [slA, cutA, HT.sIx_none, HT.sIx_nat, List.length_map]
      have l4 : names4.length = 4 := rfl
      rw [l4, Nat.min_eq_left (by omega), List.drop_zero, Nat.sub_zero, List.map_take]
    have en : names4.map A.str = [.str "home", .str "out", .str "x", .str "yy"] := rfl
    rw [en] at ct
    generalize (names4.take m).map A.str = NL at *
    simp [S.s2, newL, partA, ct]
  have b3 : evS Pg (callF Pg 9) (nthS 3 lb) s4 h3' = .nx s5 h5 := fo_at (t := .nm 4) (b := addB 6 7 4) ei e3
  exact ⟨s5, h5, more, L, M, st, (step_at (ss := lb) (n := 0) rfl b0).trans ((step_at rfl b1).trans ((step_at rfl b2).trans (step_at rfl b3))), S.keep K (by simp), T5, a4, a3⟩
/-- the drawn deeds -/
theorem deeds {ns : List Int} {s : ASt} {h : AH} {more : Int} {L M : Lay} {st : CS} (S : Sl ns s more L M) (T : Two h L M st) (r0 : st.rows = []) (c0 : st.calls = []) :
    ∃ s' h' L' M' st', evS Pg (callF Pg 9) (nthS 4 lb) s h = .nx s' h' ∧ Sl ns s' more L' M' ∧ Two h' L' M' st' ∧ phi st' ≤ 200 := by
  have p0 : phi st = 0 := by simp [phi, r0, c0]
  have m0 := Int.emod_nonneg more (show (71 : Int) ≠ 0 by decide)
  have m1 := Int.emod_lt_of_pos more (show (0 : Int) < 71 by decide)
  obtain ⟨m, hm⟩ := Int.eq_ofNat_of_zero_le m0
  obtain ⟨s', h', e, L', M', st', S', T', p'⟩ := for_range (lo := 0) (n := 20 + m) (s := s) (h := h) (bd := forB Pg (callF Pg 9) (.nm 5) lc) (fun j s h => ∃ L M st, Sl ns s more L M ∧ Two h L M st ∧ phi st ≤ 2 * j) ⟨L, M, st, S, T, by omega⟩ (fun j s h hj I => by
    obtain ⟨L, M, st, S, T, p⟩ := I
    have h5 : 5 < s.length := by rw [S.len]; decide
    have h8 : 8 < s.length := by rw [S.len]; decide
    have ed := s_drawn (Pg := Pg) 8 more (10 + j) h
    generalize drawn more (10 + j) = d0 at ed
    obtain ⟨d, hd, e1⟩ := s_deed (Pg := Pg) 6 T.O T.W.n30 d0
    obtain ⟨L', M', h1, h2, e2, e3, T', g⟩ := T.doP (Pg := Pg) 2 4 (by omega) hd
    obtain ⟨h3, e4, f⟩ := s_like (Pg := Pg) 3 T'.R T'.O T'.D T'.W
    rw [g.c, g.d] at e4
    have eq := eq_refl (h := h2) (okD_do T.W d)
    have pd := phi_do T.W d
    refine ⟨(s.set 5 (some (.int (0 + j)))).set 8 (some d.v), h3, .inl ?_, L', M', (doS st d).2, ?_, T'.fr f, by omega⟩
    · generalize (doS st d).1 = v at *
      generalize d.v = dv at *
      simp [forB_eq, lc, nthS, dropS, tlS, hdS, lb, bodyS, f_law, List.getElem?_set, h5, h8, S.s2, S.s6, S.s7, ed, e1, e2, e3, e4, eq]
    · exact ((S.keep (Keeps.set (X := [5, 8]) s _ (by simp)) (by simp)).keep (Keeps.set (X := [5, 8]) _ _ (by simp)) (by simp)).lay g.c g.d)
  refine ⟨s', h', L', M', st', ?_, S', T', by omega⟩
  refine fo_at (t := .nm 5) (b := lc) (ev_rng1 (20 + m) (j := 20 + more % 71) ?_ ?_ (by omega)) e
  · simp [S.s2]
  · omega
theorem sort_head {zs : List Str} (h : zs ≠ []) (hl : zs.length < 64) : ∃ z ∈ zs, ∀ {hh : AH}, L2.atI ((sortS zs).map A.str) 0 = some (.str z) := by
  have ins : ∀ (x : Str) (ys : List Str), ∀ y ∈ insS x ys, y = x ∨ y ∈ ys := by
    intro x ys
    induction ys with
    | nil => intro y hy; simpa [insS] using hy
    | cons a ys ih =>
      intro y hy
      unfold insS at hy
      split at hy
      · rcases List.mem_cons.mp hy with q | q
        · exact .inr (by rw [q]; exact List.mem_cons_self)
        · rcases ih y q with z | z
          · exact .inl z
          · exact .inr (List.mem_cons_of_mem _ z)
      · rcases List.mem_cons.mp hy with q | q
        · exact .inl q
        · exact .inr q
  have mem : ∀ (ys : List Str), ∀ y ∈ sortS ys, y ∈ ys := by
    intro ys
    induction ys with
    | nil => intro y hy; simpa [sortS] using hy
    | cons a ys ih =>
      intro y hy
      rcases ins a (sortS ys) y hy with q | q
      · rw [q]; exact List.mem_cons_self
      · exact List.mem_cons_of_mem _ (ih y q)
  have ne : sortS zs ≠ [] := by
    cases zs with
    | nil => exact absurd rfl h
    | cons a ys =>
      show insS a (sortS ys) ≠ []
      cases sortS ys with
      | nil => simp [insS]
      | cons b t => unfold insS; split <;> simp
  cases e : sortS zs with
  | nil => exact absurd e ne
  | cons z t =>
    refine ⟨z, mem zs z (by rw [e]; exact List.mem_cons_self), ?_⟩
    intro _
    rw [List.map_cons]
    exact L2.atI_nat (j := 0) rfl
theorem toSort_dm {h : AH} {l : Nat} {rs : List (Str × Str)} (e : h[l]? = some (.dic false (dm A.str rs))) : toSort h (.loc l) = some ((rs.map (·.1)).map A.str) := by
  simp only [toSort, e]
  show some (keysA (dm A.str rs)) = _
  rw [keys_dm, List.map_map]
  rfl
/-- in the end many are sent -/
theorem full {ns : List Int} {s : ASt} {h : AH} {more : Int} {L M : Lay} {st : CS} (S : Sl ns s more L M) (T : Two h L M st) (p : phi st ≤ 200) :
    ∃ s' h', evS Pg (callF Pg 9) (nthS 5 lb) s h = .nx s' h' ∧ s'.length = 9 ∧ s'[0]? = some (some (.fro (ns.map A.int))) := by
  have e0 : nthS 5 lb = .ife (.and (.cmp .Eq (.bin .Mod (.bin .FloorDiv (.var 2) (.con (.int 128))) (.con (.int 4))) (.con (.int 0))) (.cmp .NotEq (.ix (.var 7) (.con (.str "roads"))) (.dic .nil))) ld .nil := rfl
  rw [e0]
  by_cases q : more / 128 % 4 = 0
  · have m0 : mkDic [] = [] := rfl
    have T0 := T.fr (Fr.app No h [.dic false []])
    have eq : eqA (h ++ [.dic false []]) (.loc M.r) (.loc h.length) = some (decide (st.roads = [])) := by
      have a1 := T0.O.or_
      have a2 : (h ++ [AO.dic false []])[h.length]? = some (.dic false []) := by simp
      simp only [eqA, a1, a2, eqK, dm_len, List.length_nil]
      cases st.roads with
      | nil => simp
      | cons x xs => simp
    by_cases q2 : st.roads = []
    · refine ⟨s, h ++ [.dic false []], ?_, S.len, S.s0⟩
      simp [q2] at eq
      simp [S.s2, q, S.s7, T.O.oc, dicPut, pairsA, m0, eq]
    · simp only [q2, decide_false] at eq
      obtain ⟨s', h', e, L', M', st', S', T'⟩ := for_range (lo := 0) (n := 31) (s := s) (h := h ++ [.dic false []]) (bd := forB Pg (callF Pg 9) (.nm 5) le) (fun j s h => ∃ L M st, Sl ns s more L M ∧ Two h L M st ∧ phi st ≤ 200 + 2 * j ∧ st.roads ≠ []) ⟨L, M, st, S, T0, p, q2⟩ (fun j s h hj I => by
        obtain ⟨L, M, st, S, T, p, ne⟩ := I
        have h5 : 5 < s.length := by rw [S.len]; decide
        have h8 : 8 < s.length := by rw [S.len]; decide
        have rl := T.W.roads.len
        obtain ⟨z, hz, az⟩ := sort_head (zs := st.roads.map (·.1)) (by simpa using ne) (by simp; omega)
        have az : L2.atI ((sortS (st.roads.map (·.1))).map A.str) 0 = some (.str z) := @az []
        have ts := toSort_dm T.O.or_
        have so := sortA_strs (st.roads.map (·.1)) (by simp; omega)
        obtain ⟨pp, hp, rfl⟩ := List.mem_map.mp hz
        have nz := T.W.roads.name pp hp
        have hd : (Dd.send "k" pp.1 "").Ok := ⟨by decide +kernel, nz, by decide +kernel⟩
        obtain ⟨L', M', h1, h2, e2, e3, T', g⟩ := T.doP (Pg := Pg) 2 4 (by omega) hd
        have eq := eq_refl (h := h2) (okD_do T.W (.send "k" pp.1 ""))
        have pd := phi_do T.W (.send "k" pp.1 "")
        have ne' : (doS st (.send "k" pp.1 "")).2.roads = st.roads := by
          simp only [doS, sendD]
          split
          · split <;> rfl
          · rfl
        refine ⟨(s.set 5 (some (.int (0 + j)))).set 8 (some (Dd.send "k" pp.1 "").v), h2, .inl ?_, L', M', (doS st (.send "k" pp.1 "")).2, ?_, T', by omega, by rw [ne']; exact ne⟩
        · simp only [Dd.v] at e2 e3 ⊢
          generalize (doS st (.send "k" pp.1 "")).1 = v at *
          generalize (sortS (st.roads.map (·.1))).map A.str = SL at *
          generalize (st.roads.map (·.1)).map A.str = KL at *
          simp [forB_eq, le, ld, nthS, dropS, tlS, hdS, lb, bodyS, f_law, List.getElem?_set, h5, h8, S.s6, S.s7, T.O.oc, ts, so, az, e2, e3, eq]
        · exact ((S.keep (Keeps.set (X := [5, 8]) s _ (by simp)) (by simp)).keep (Keeps.set (X := [5, 8]) _ _ (by simp)) (by simp)).lay g.c g.d)
      refine ⟨s', h', ?_, S'.len, S'.s0⟩
      have e1 : evSs Pg (callF Pg 9) ld s (h ++ [.dic false []]) = .nx s' h' := by
        have b0 : evS Pg (callF Pg 9) (nthS 0 ld) s (h ++ [.dic false []]) = .nx s' h' := fo_at (t := .nm 5) (b := le) (ev_rng1 31 (a := .con (.int 31)) (j := 31) (by simp) rfl (by omega)) e
        exact (step_at (ss := ld) (n := 0) rfl b0).trans rfl
      rw [evS_ife]
      simp [S.s2, q, S.s7, T.O.oc, dicPut, pairsA, m0, eq, e1]
  · refine ⟨s, h, ?_, S.len, S.s0⟩
    have q' : (more / 128 % 4 == 0) = false := by simpa using q
    simp [S.s2, q']
theorem turn (ns : List Int) (hn : ns.length ≤ 63) (i : Nat) (s : ASt) (h : AH) (sl : s.length = 9) (s0 : s[0]? = some (some (.fro (ns.map A.int)))) (s1 : s[1]? = some (some (.int i))) :
    ∃ s' h', evSs Pg (callF Pg 9) lb s h = .nx s' h' ∧ s'.length = 9 ∧ s'[0]? = some (some (.fro (ns.map A.int))) := by
  obtain ⟨s1, h1, more, L, M, st, e1, S1, T1, r0, c0⟩ := pre ns hn i s h sl s0 s1
  obtain ⟨s2, h2, L2, M2, st2, e2, S2, T2, p2⟩ := deeds S1 T1 r0 c0
  obtain ⟨s3, h3, e3, l3, z3⟩ := full S2 T2 p2
  refine ⟨s3, h3, ?_, l3, z3⟩
  rw [e1, step_at rfl e2, step_at rfl e3]
  rfl
theorem plain (ns : List Int) (hn : ns.length ≤ 63) : ∃ h', callF L.Pg 10 "law" [.fro (ns.map A.int)] [] = .ok (.bl true) h' := by
  show ∃ h', callF Pg 10 "law" [.fro (ns.map A.int)] [] = .ok (.bl true) h'
  rw [Lk20.c_law, f_law_eq]
  exact law_loop (by decide) (by decide) hn (turn ns hn)
end Lk20

namespace Lk20
open PySem PySem.Spec PyProof.Rows L2 MI
abbrev R : PySem.W.OpenRow := PySem.W.OpenLaw.row PySem.Challenge.rw_tryroad_k20_whole_callers
def loose0 : List Str := ["__name__", "TryError", "BadRule", "BadName", "BadText", "BadTime", "BadCall", "Full", "SMALL", "MOST_NAME", "MOST_TEXT", "BARRED", "is_name", "need_name", "is_text", "need_text", "BOUNDS", "is_count", "need_rule", "wait_of", "MOST_CALLS", "MOST_ADDRESSES", "MOST_TICKS", "WORDS", "Call", "Caller", "_law_cell", "_law_drawn", "_law_word", "_law_told"]
def loose1 : List Str := ["_law_rule", "_law_wait", "_law_any_name", "_law_any_text", "_law_own", "_law_real", "_law_may", "_law_due", "_law_fail", "_law_send", "_law_try", "_law_tick", "_law_hand", "_law_lead", "_law_deed", "_law_own_does", "_law_does", "_law_like"]
def loose : List Str := loose0 ++ loose1
theorem run (w : World) : HandSHeadRun.RunEq R (PySem.W.view R.prog [52]) L.hook L.ob 20000 loose w := by
  intro os
  kernel_rfl
end Lk20
open PySem PySem.W PySem.Calls PyProof.Rows MI
theorem holds_k20 (plain : ∀ ns : List Int, ns.length ≤ 63 → ∃ h', callF Lk20.L.Pg 10 "law" [.fro (ns.map A.int)] [] = .ok (.bl true) h') : PySem.Challenge.rw_tryroad_k20_whole_callers.Holds := by
  w_on; o_law
  refine HandSHeadRun.head_any (r := OpenLaw.row PySem.Challenge.rw_tryroad_k20_whole_callers) (q := view (OpenLaw.row PySem.Challenge.rw_tryroad_k20_whole_callers).prog [52]) (H := Lk20.L.hook) (ob := Lk20.L.ob) (M := 20000) (loose := Lk20.loose) (d := HandSHeadRun.topDef (OpenLaw.row PySem.Challenge.rw_tryroad_k20_whole_callers).prog 52) (kwd := []) (LawX.ob_eq Lk20.L)
    (by kernel_rfl) (fun s => by kernel_rfl) Lk20.run (by kernel_rfl) (by kernel_rfl) (by kernel_rfl) (by rfl) (by first | assumption | decide +kernel) (by decide +kernel) ⟨rfl, rfl, rfl, rfl, rfl, by decide +kernel⟩ ?hw ?hc
  case hw => w_witness2
  case hc =>
    refine LamX.walk_ofTsE (l := PySem.Challenge.rw_tryroad_k20_whole_callers) (n := 63) (k := 4 * 10) (x := "script") (CX := fun w => L2N.CX PySem.Challenge.rw_tryroad_k20_whole_callers.prog w) rfl (by decide) (by kernel_rfl) ⟨rfl, by decide, by decide⟩ ?F (fun _ _ _ _ _ z => cx_no z)
    intro w mg fa h Y G hmg0
    obtain ⟨K, KX, c⟩ := Y
    have hmg : mg ("law" : PySem.Str) = some (.ref fa) := by
      have e : (HandSHeadRun.topDef (OpenLaw.row PySem.Challenge.rw_tryroad_k20_whole_callers).prog 52).name = ("law" : PySem.Str) := by kernel_rfl
      rw [← e]
      exact hmg0
    exact ⟨K, KX, law_at Lk20.L Lk20.ok plain KX G c hmg⟩

theorem PySem.Challenge.cw_tryroad_k20_whole_callers_holds : PySem.Challenge.rw_tryroad_k20_whole_callers.Holds :=
  holds_k20 Lk20.plain
#print axioms PySem.Challenge.cw_tryroad_k20_whole_callers_holds
