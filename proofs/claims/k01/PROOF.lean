import PyProof.Rows.All
import Wide.All
import OpenK.AllK
import Wide.FinOn
import PySem.Challenge.RW_oneforone_k01_bags
import HandS.ForMost
import HandS.ForExc
import HandS.ExcInit
import HandS.ExcField
import HandS.TryMany
import KE.KStar
import HandS.Wide
import HandS.Deep
import HandS.TupAny
import HandS.IsInst
import HandS.SortInts
import HandS.RaiseMore
import KE.DataMinMax
import KE.KMathGC
import PyProof.WalksMore
import PyProof.ReprRoads
import HandS.ExcValue
import HandS.Dict
import HandS.Style
import HandS.Flow
import HandS.Strs
import HandS.ExcOwn
import KE.KUnpack
import HandS.Comp
import HandS.Struct
import HandS.HeadHook4
import HandS.Head2
import HandS.HeadEnd
import HandS.Ends
import KE.KStateDown
import Lean
import HandS.Head3
section
set_option Elab.async false
set_option linter.all false
/-! D0: data trees, cells, the small language, its evaluator. -/
namespace Dl
open PySem

/-- data: trees; `ref n` names the cell n of the store. The flag of a list, dict, set, instance: nobody else holds it. -/
inductive D where
  | non
  | bl (b : Bool)
  | int (i : Int)
  | str (x : Str)
  | tup (xs : List D)
  | lst (o : Bool) (xs : List D)
  | dic (o : Bool) (ks vs : List D)
  | set (o : Bool) (xs : List D)
  | ins (o : Bool) (c : Nat) (vs : List D)
  | ref (n : Nat)
  | fn (k : Nat)
  | cls (c : Nat)
  | exc (c : Nat) (vs : List D)
  deriving Inhabited

abbrev Sto := List D
abbrev Env := List (Option D)

mutual
/-- the flags off -/
def frz : D → D
  | .tup xs => .tup (frzL xs)
  | .lst _ xs => .lst false (frzL xs)
  | .dic _ ks vs => .dic false ks (frzL vs)
  | .set _ xs => .set false xs
  | .ins _ c vs => .ins false c (frzL vs)
  | .non => .non
  | .bl b => .bl b
  | .int i => .int i
  | .str x => .str x
  | .ref n => .ref n
  | .fn k => .fn k
  | .cls c => .cls c
  | .exc c vs => .exc c (frzL vs)
def frzL : List D → List D
  | [] => []
  | x :: xs => frz x :: frzL xs
end

mutual
/-- the top k levels of what nobody else holds become cells -/
def plant (k : Nat) (d : D) (S : Sto) : D × Sto :=
  match k, d with
  | 0, d => (frz d, S)
  | k + 1, .tup xs => let r := plantL k xs S; (.tup r.1, r.2)
  | k + 1, .lst true xs => let r := plantL k xs S; (.ref r.2.length, r.2 ++ [.lst true r.1])
  | k + 1, .dic true ks vs => let r := plantL k vs S; (.ref r.2.length, r.2 ++ [.dic true ks r.1])
  | _ + 1, .set true xs => (.ref S.length, S ++ [.set true xs])
  | k + 1, .ins true c vs => let r := plantL k vs S; (.ref r.2.length, r.2 ++ [.ins true c r.1])
  | _ + 1, d => (frz d, S)
def plantL (k : Nat) (xs : List D) (S : Sto) : List D × Sto :=
  match xs with
  | [] => ([], S)
  | x :: xs => let r := plant k x S; let q := plantL k xs r.2; (r.1 :: q.1, q.2)
end

mutual
/-- no ref to a cell from b on -/
def noR (b : Nat) : D → Bool
  | .ref n => decide (n < b)
  | .tup xs => noRL b xs
  | .lst _ xs => noRL b xs
  | .dic _ _ vs => noRL b vs
  | .ins _ _ vs => noRL b vs
  | .exc _ vs => noRL b vs
  | .non => true
  | .bl _ => true
  | .int _ => true
  | .str _ => true
  | .set _ _ => true
  | .fn _ => true
  | .cls _ => true
def noRL (b : Nat) : List D → Bool
  | [] => true
  | x :: xs => noR b x && noRL b xs
end

def pullA (g : D → List Nat → Option (D × List Nat)) : List D → List Nat → Option (List D × List Nat)
  | [], rs => some ([], rs)
  | x :: xs, rs => match g x rs with
    | some (y, rs) => (match pullA g xs rs with | some (ys, rs) => some (y :: ys, rs) | none => none)
    | none => none
/-- cells from b on are read out, as trees that nobody else holds; rs: the cells read so far -/
def pull (S : Sto) (b : Nat) : Nat → D → List Nat → Option (D × List Nat)
  | 0, d, rs => if noR b d then some (d, rs) else none
  | f + 1, .ref n, rs => if n < b then some (.ref n, rs) else
      match S[n]? with
      | some (.lst _ xs) => (match pullA (pull S b f) xs (n :: rs) with | some (ys, rs) => some (.lst true ys, rs) | none => none)
      | some (.dic _ ks vs) => (match pullA (pull S b f) vs (n :: rs) with | some (ys, rs) => some (.dic true ks ys, rs) | none => none)
      | some (.ins _ c vs) => (match pullA (pull S b f) vs (n :: rs) with | some (ys, rs) => some (.ins true c ys, rs) | none => none)
      | _ => none
  | f + 1, .tup xs, rs => (match pullA (pull S b f) xs rs with | some (ys, rs) => some (.tup ys, rs) | none => none)
  | f + 1, .lst true xs, rs => (match pullA (pull S b f) xs rs with | some (ys, rs) => some (.lst true ys, rs) | none => none)
  | _ + 1, d, rs => if noR b d then some (d, rs) else none

/-- at a def's end: its own cells go -/
def leave (b : Nat) (d : D) (S : Sto) : Option (D × Sto) :=
  if S.length ≤ b then some (d, S)
  else if noR b d then some (d, S.take b)
  else match pull S b 12 d [] with
    | some (y, rs) => if rs.Nodup then some (y, S.take b) else some (frz y, S.take b)
    | none => none
def leaveL (b : Nat) (ds : List D) (S : Sto) : Option (List D × Sto) :=
  if S.length ≤ b then some (ds, S)
  else if noRL b ds then some (ds, S.take b) else none

/-! ### comparable data -/
mutual
def okD (n : Nat) (d : D) : Bool :=
  match n, d with
  | _, .non => true
  | _, .bl _ => true
  | _, .int _ => true
  | _, .str x => PyData.strOk x
  | n + 1, .tup xs => okL n xs
  | n + 1, .lst _ xs => okL n xs
  | _, _ => false
def okL (n : Nat) (xs : List D) : Bool :=
  match xs with
  | [] => true
  | x :: xs => okD n x && okL n xs
end
mutual
/-- == of Python -/
def eqD : D → D → Bool
  | .non, .non => true
  | .bl a, .bl b => a == b
  | .bl a, .int j => (if a then 1 else 0) == j
  | .int i, .bl b => i == (if b then 1 else 0)
  | .int i, .int j => i == j
  | .str x, .str y => x == y
  | .lst _ xs, .lst _ ys => eqL xs ys
  | .tup xs, .tup ys => eqL xs ys
  | _, _ => false
def eqL : List D → List D → Bool
  | [], [] => true
  | x :: xs, y :: ys => eqD x y && eqL xs ys
  | _, _ => false
end

/-- what a value is, cells read -/
def look (S : Sto) (d : D) : Option D :=
  match d with
  | .ref n => S[n]?
  | d => some d
/-- cells read at any depth -/
def snap (S : Sto) : Nat → D → D
  | 0, d => d
  | f + 1, d =>
    match d with
    | .ref n => (match S[n]? with | some (.lst _ xs) => .lst false (xs.map (snap S f)) | _ => .ref n)
    | .tup xs => .tup (xs.map (snap S f))
    | .lst _ xs => .lst false (xs.map (snap S f))
    | d => d
def norm (S : Sto) (d : D) : Option D := if okD 60 d then some d else let e := snap S 8 d; if okD 60 e then some e else none
/-- the items of a list or a tuple -/
def kids (S : Sto) (d : D) : Option (List D) :=
  match look S d with
  | some (.lst _ xs) => some xs
  | some (.tup xs) => some xs
  | _ => none

/-! ### outcomes -/
inductive R (α : Type) where
  | ok (a : α) (S : Sto)
  | ex (c : Nat) (vs : List D) (S : Sto)
  | er
def R.bind {α β : Type} (r : R α) (f : α → Sto → R β) : R β :=
  match r with
  | .ok a S => f a S
  | .ex c vs S => .ex c vs S
  | .er => .er
def R.ofO {α : Type} (o : Option α) (S : Sto) : R α :=
  match o with
  | some a => .ok a S
  | none => .er

def truth (S : Sto) (d : D) : Option Bool :=
  match look S d with
  | some .non => some false
  | some (.bl b) => some b
  | some (.int i) => some (i != 0)
  | some (.str x) => if x.length ≤ sizeLine then some (x.length != 0) else none
  | some (.tup xs) => some (!xs.isEmpty)
  | some (.lst _ xs) => some (!xs.isEmpty)
  | some (.dic _ ks _) => some (!ks.isEmpty)
  | _ => none

/-! ### operators on values -/
def isSc : D → Bool
  | .non => true
  | .bl _ => true
  | .int _ => true
  | .str _ => true
  | _ => false
def binF (o : Operator) (a b : D) (S : Sto) : R D :=
  match o, a, b with
  | .Add, .int i, .int j => .ok (.int (i + j)) S
  | .Sub, .int i, .int j => .ok (.int (i - j)) S
  | .Mult, .int i, .int j => if i.natAbs.log2 + j.natAbs.log2 < 1000000 then .ok (.int (i * j)) S else .er
  | .FloorDiv, .int i, .int j => if 0 < j ∧ j.natAbs.log2 < 9000 then .ok (.int (i / j)) S else .er
  | .Mod, .int i, .int j => if j ≠ 0 then .ok (.int (i.fmod j)) S else .er
  | .Pow, .int i, .int j => if 0 ≤ j ∧ j ≤ 1000000 ∧ i.natAbs < 2 ^ 64 then .ok (.int (i ^ j.toNat)) S else .er
  | .Add, .tup xs, .tup ys => if xs.length + ys.length ≤ sizeLine then .ok (.tup (xs ++ ys)) S else .er
  | .Add, a, b =>
    (match look S a, look S b with
    | some (.lst _ xs), some (.lst _ ys) => if xs.length + ys.length ≤ sizeLine then .ok (.lst true (xs ++ ys)) S else .er
    | _, _ => .er)
  | .Mult, a, .int j =>
    (match look S a with
    | some (.lst _ xs) => if xs.all isSc = true ∧ -(2 ^ 63) ≤ j ∧ j < 2 ^ 63 ∧ xs.length * j.toNat ≤ sizeLine then .ok (.lst true (List.replicate j.toNat xs).flatten) S else .er
    | _ => .er)
  | _, _, _ => .er

mutual
def ltI : D → D → Option Bool
  | .int i, .int j => some (decide (i < j))
  | _, _ => none
end
def cmpF (o : CmpOp) (a b : D) (S : Sto) : Option Bool :=
  match o with
  | .Eq => (match a, b with
    | .str x, .str y => some (decide (x = y))
    | a, b => (match norm S a, norm S b with | some x, some y => some (eqD x y) | _, _ => none))
  | .NotEq => (match a, b with
    | .str x, .str y => some (!decide (x = y))
    | a, b => (match norm S a, norm S b with | some x, some y => some (!eqD x y) | _, _ => none))
  | .Lt => (match a, b with | .int i, .int j => some (decide (i < j)) | _, _ => none)
  | .LtE => (match a, b with | .int i, .int j => some (decide (i ≤ j)) | _, _ => none)
  | .Gt => (match a, b with | .int i, .int j => some (decide (j < i)) | _, _ => none)
  | .GtE => (match a, b with | .int i, .int j => some (decide (j ≤ i)) | _, _ => none)
  | .Is => (match b with | .non => (match a with | .non => some true | _ => some false) | _ => none)
  | .IsNot => (match b with | .non => (match a with | .non => some false | _ => some true) | _ => none)
  | .In => (match norm S a, kids S b with
    | some x, some ys => (match norm S (.tup ys) with | some (.tup zs) => some (zs.any fun z => eqD z x) | _ => none)
    | _, _ => none)
  | .NotIn => (match norm S a, kids S b with
    | some x, some ys => (match norm S (.tup ys) with | some (.tup zs) => some (!zs.any fun z => eqD z x) | _ => none)
    | _, _ => none)
end Dl
end

section
set_option Elab.async false
set_option linter.all false
/-! D1: the small language, its evaluator. -/
namespace Dl
open PySem

/-! ### texts of data -/
mutual
def toPy : D → PyData
  | .bl b => .bool b
  | .int i => .int i
  | .str x => .str x
  | .tup xs => .tuple (toPyL xs)
  | .lst _ xs => .list (toPyL xs)
  | .dic _ ks vs => .dict ((toPyL ks).zip (toPyL vs))
  | _ => .none
def toPyL : List D → List PyData
  | [] => []
  | x :: xs => toPy x :: toPyL xs
end
mutual
/-- more than the length of the text -/
def szD : D → Nat
  | .non => 4
  | .bl _ => 5
  | .int i => i.natAbs.log2 + 4
  | .str x => 10 * x.length + 2
  | .tup xs => szL xs + 3
  | .lst _ xs => szL xs + 2
  | .dic _ ks vs => szL ks + szL vs + 2
  | _ => 0
def szL : List D → Nat
  | [] => 0
  | x :: xs => szD x + 2 + szL xs
end
mutual
/-- what has a text here -/
def shD (n : Nat) (d : D) : Bool :=
  match n, d with
  | _, .non => true
  | _, .bl _ => true
  | _, .int i => decide (i.natAbs.log2 < 1920)
  | _, .str _ => true
  | n + 1, .tup xs => shL n xs
  | n + 1, .lst _ xs => shL n xs
  | n + 1, .dic _ ks vs => shL n ks && shL n vs && (ks.length == vs.length)
  | _, _ => false
def shL (n : Nat) (xs : List D) : Bool :=
  match xs with
  | [] => true
  | x :: xs => shD n x && shL n xs
end
/-- cells read at any depth, dicts too -/
def snapS (S : Sto) : Nat → D → D
  | 0, d => d
  | f + 1, d =>
    match d with
    | .ref n => (match S[n]? with | some (.lst _ xs) => .lst false (xs.map (snapS S f)) | some (.dic _ ks vs) => .dic false ks (vs.map (snapS S f)) | _ => .ref n)
    | .tup xs => .tup (xs.map (snapS S f))
    | .lst _ xs => .lst false (xs.map (snapS S f))
    | .dic _ ks vs => .dic false ks (vs.map (snapS S f))
    | d => d
def normS (S : Sto) (d : D) : Option D := if shD 60 d then some d else let e := snapS S 8 d; if shD 60 e then some e else none

/-! ### built-in functions -/
inductive Ty where
  | int | bool | str | tuple | list | dict | set | none
  | cls (c : Nat)
  deriving DecidableEq
inductive Prim where
  | len | repr | all | any | sum | max1 | min1 | max2 | min2 | sorted | list | tuple | int | abs | comb | dict
  | isi (ts : List Ty)
inductive Meth where
  | index
inductive Mut where
  | append | pop | popAt

def insI (x : Int) : List Int → List Int
  | [] => [x]
  | y :: ys => if x ≤ y then x :: y :: ys else y :: insI x ys
def sortI : List Int → List Int
  | [] => []
  | x :: xs => insI x (sortI xs)
def intsD : List D → Option (List Int)
  | [] => some []
  | .int i :: r => (match intsD r with | some l => some (i :: l) | none => none)
  | _ :: _ => none
def boolsD : List D → Option (List Bool)
  | [] => some []
  | .bl b :: r => (match boolsD r with | some l => some (b :: l) | none => none)
  | _ :: _ => none
def chooseN : Nat → Nat → Nat
  | _, 0 => 1
  | 0, _ + 1 => 0
  | n + 1, k + 1 => chooseN n k + chooseN n (k + 1)
/-- a key of a dict of ints and texts -/
def keyKS : D → Bool
  | .int _ => true
  | .str _ => true
  | _ => false
def dmap (k v : D) : List D → List D → List D
  | x :: ks, y :: vs => (if eqD x k then v else y) :: dmap k v ks vs
  | _, _ => []
def dput (k v : D) (ks vs : List D) : List D × List D :=
  if ks.any fun x => eqD x k then (ks, dmap k v ks vs) else (ks ++ [k], vs ++ [v])
def dfold : List D → List D → List D → Option (List D × List D)
  | [], ks, vs => some (ks, vs)
  | .tup [k, v] :: r, ks, vs => if keyKS k then dfold r (dput k v ks vs).1 (dput k v ks vs).2 else none
  | _ :: _, _, _ => none
def tyD (S : Sto) (d : D) : Option Ty :=
  match look S d with
  | some .non => some .none
  | some (.bl _) => some .bool
  | some (.int _) => some .int
  | some (.str _) => some .str
  | some (.tup _) => some .tuple
  | some (.lst _ _) => some .list
  | some (.dic _ _ _) => some .dict
  | some (.ins _ c _) => some (.cls c)
  | _ => none
def subTy (t u : Ty) : Bool := decide (t = u) || (decide (t = .bool) && decide (u = .int))

def primF (p : Prim) (as : List D) (S : Sto) : R D :=
  match p, as with
  | .len, [a] =>
    (match look S a with
    | some (.str x) => if x.length ≤ sizeLine then .ok (.int x.length) S else .er
    | some (.tup xs) => .ok (.int xs.length) S
    | some (.lst _ xs) => .ok (.int xs.length) S
    | some (.dic _ ks _) => .ok (.int ks.length) S
    | _ => .er)
  | .repr, [a] => (match normS S a with | some d => if (PyData.shown (toPy d)).length ≤ sizeLine then .ok (.str (PyData.shown (toPy d))) S else .er | none => .er)
  | .all, [a] => (match (kids S a).bind boolsD with | some l => .ok (.bl (l.all id)) S | none => .er)
  | .any, [a] => (match (kids S a).bind boolsD with | some l => .ok (.bl (l.any id)) S | none => .er)
  | .sum, [a] => (match (kids S a).bind intsD with | some l => .ok (.int l.sum) S | none => .er)
  | .max1, [a] => (match (kids S a).bind intsD with | some (x :: l) => .ok (.int (l.foldl max x)) S | _ => .er)
  | .min1, [a] => (match (kids S a).bind intsD with | some (x :: l) => .ok (.int (l.foldl min x)) S | _ => .er)
  | .max2, [.int i, .int j] => .ok (.int (if j > i then j else i)) S
  | .min2, [.int i, .int j] => .ok (.int (if j < i then j else i)) S
  | .sorted, [a] => (match (kids S a).bind intsD with | some l => .ok (.lst true ((sortI l).map .int)) S | none => .er)
  | .list, [a] => (match kids S a with | some xs => .ok (.lst true xs) S | none => .er)
  | .tuple, [a] => (match kids S a with | some xs => .ok (.tup xs) S | none => .er)
  | .int, [.int i] => .ok (.int i) S
  | .int, [.bl b] => .ok (.int (if b then 1 else 0)) S
  | .abs, [.int i] => .ok (.int (if i < 0 then -i else i)) S
  | .comb, [.int n, .int k] => if 0 ≤ n ∧ n ≤ 20 ∧ 0 ≤ k ∧ k ≤ 20 then .ok (.int (chooseN n.toNat k.toNat)) S else .er
  | .dict, [a] => (match look S a with | some (.lst _ xs) => (match dfold (frzL xs) [] [] with | some (ks, vs) => .ok (.dic true ks vs) S | none => .er) | _ => .er)
  | .isi ts, [a] => (match tyD S a with | some t => .ok (.bl (ts.any fun u => subTy t u)) S | none => .er)
  | _, _ => .er

def subF (a i : D) (S : Sto) : R D :=
  match look S a, i with
  | some (.lst _ xs), .int i => R.ofO (L2.atI xs i) S
  | some (.tup xs), .int i => R.ofO (L2.atI xs i) S
  | _, _ => .er
/-- a slice without a step -/
def cutD (xs : List D) (lo hi : Option Int) : List D := (xs.drop (HT.sIx xs.length 0 lo)).take (HT.sIx xs.length xs.length hi - HT.sIx xs.length 0 lo)
def slcF (a : D) (lo hi : Option Int) (S : Sto) : R D :=
  match look S a with
  | some (.lst _ xs) => .ok (.lst true (cutD xs lo hi)) S
  | some (.tup xs) => .ok (.tup (cutD xs lo hi)) S
  | _ => .er
def revF (a : D) (S : Sto) : R D :=
  match look S a with
  | some (.lst _ xs) => .ok (.lst true xs.reverse) S
  | some (.tup xs) => .ok (.tup xs.reverse) S
  | _ => .er
def methF (m : Meth) (a : D) (as : List D) (S : Sto) : R D :=
  match m, as with
  | .index, [x] =>
    (match norm S x, kids S a with
    | some y, some ys => (match norm S (.tup ys) with
      | some (.tup zs) => (match zs.findIdx? fun z => eqD z y with | some j => .ok (.int j) S | none => .er)
      | _ => .er)
    | _, _ => .er)
  | _, _ => .er
/-- the cell n may hold x: no cell of a frame that ends sooner -/
def okB (bs : List Nat) (n : Nat) (x : D) : Bool := bs.all fun b => decide (b ≤ n) || noR b x
/-- a change of the cell n; b: where the cells of the frames begin -/
def mutF (m : Mut) (b : List Nat) (a : D) (as : List D) (S : Sto) : R D :=
  match a with
  | .ref n =>
    (match m, as, S[n]? with
    | .append, [x], some (.lst _ xs) => if xs.length < sizeLine ∧ okB b n x = true then .ok .non (S.set n (.lst true (xs ++ [x]))) else .er
    | .pop, [], some (.lst _ xs) => (match xs[xs.length - 1]? with | some y => .ok y (S.set n (.lst true xs.dropLast)) | none => .er)
    | .popAt, [.int i], some (.lst _ xs) => if -(2 ^ 63) ≤ i ∧ i < 2 ^ 63 then (match seqIndex? i xs.length with | some k => (match xs[k]? with | some y => .ok y (S.set n (.lst true (xs.eraseIdx k))) | none => .er) | none => .er) else .er
    | _, _, _ => .er)
  | _ => .er
/-- o[i] = v -/
def putF (b : List Nat) (o i v : D) (S : Sto) : Option Sto :=
  match o, i with
  | .ref n, .int i =>
    (match S[n]? with
    | some (.lst _ xs) => (match L2.ixN xs.length i with | some k => if okB b n v then some (S.set n (.lst true (xs.set k v))) else none | none => none)
    | _ => none)
  | _, _ => none

/-! ### the language -/
inductive Tg where
  | nm (i : Nat)
  | tup (ts : List Tg)
mutual
inductive E where
  | cst (d : D)
  | var (i : Nat)
  | bin (o : Operator) (a b : E)
  | neg (a : E)
  | not (a : Q)
  | and (a b : E)
  | or (a b : E)
  | ite (c : Q) (a b : E)
  | cmp (o : CmpOp) (a b : E)
  | chn (o p : CmpOp) (a b c : E)
  | tup (es : List E)
  | lst (es : List E)
  | star (a : E)
  | sub (a i : E)
  | slc (a : E) (lo hi : Option E)
  | rev (a : E)
  | attr (a : E) (f : Nat)
  | xat (i f : Nat)
  | call (k : Nat) (es : List E)
  | callK (k : Nat) (es : List E) (ps : List Nat)
  | new (c : Nat) (es : List E)
  | prim (p : Prim) (es : List E)
  | meth (m : Meth) (a : E) (es : List E)
  | umeth (m : Nat) (a : E) (es : List E)
  | mut (m : Mut) (a : E) (es : List E)
  | lc (own : List Nat) (elt : E) (gs : List G)
  | pl (k : Nat) (a : E)
inductive It where
  | e (a : E)
  | rng (es : List E)
inductive G where
  | mk (t : Tg) (it : It) (ifs : List Q)
/-- tests -/
inductive Q where
  | e (a : E)
  | not (a : Q)
  | and (a b : Q)
  | or (a b : Q)
end
mutual
inductive S where
  | expr (e : E)
  | asg (t : Tg) (e : E)
  | par (i j : Nat) (a b : E)
  | put (o i e : E)
  | fld (o : E) (f : Nat) (e : E)
  | aug (i : Nat) (o : Operator) (e : E)
  | ret (e : Option E)
  | ite (c : Q) (t e : List S)
  | for_ (t : Tg) (it : It) (body : List S)
  | whl (fuel : Nat) (c : Q) (body : List S)
  | brk
  | cnt
  | pass
  | raise (c : Nat) (es : List E)
  | try_ (body : List S) (hs : List H)
inductive H where
  | mk (c i : Nat) (body : List S)
end

/-- a def: its parameters' number, its names' number, its body -/
structure Def where
  np : Nat
  nn : Nat
  body : List S
structure Cl where
  /-- its fields by their names' numbers, in the order of their first stores (an exception's: turned about) -/
  fs : List Nat
  /-- its methods by their names' numbers -/
  ms : List (Nat × Nat)
  /-- __init__ -/
  init : Nat
  /-- the classes that it is an instance of (itself too) -/
  sup : List Nat
  /-- an exception -/
  exc : Bool
structure Pg where
  ds : List Def
  cs : List Cl
def Pg.isI (T : Pg) (c : Nat) : Prop := ∃ k, T.cs[c]? = some k ∧ k.exc = false
end Dl
end

section
set_option Elab.async false
set_option linter.all false
/-! D2: the evaluator. -/
namespace Dl
open PySem

inductive Src where
  | its (xs : List D)
  | cell (n len : Nat)
def loopL (f : D → Sto → R (List D)) : List D → Sto → R (List D)
  | [], S => .ok [] S
  | x :: xs, S => (f x S).bind fun ys S => (loopL f xs S).bind fun zs S => .ok (ys ++ zs) S
/-- the list in the cell n keeps its length -/
def cellAt (S : Sto) (n len : Nat) : Option (List D) :=
  match S[n]? with
  | some (.lst _ xs) => if xs.length = len then some xs else none
  | _ => none
def loopC (f : D → Sto → R (List D)) (n len : Nat) : Nat → Sto → R (List D)
  | 0, S => (match cellAt S n len with | some _ => .ok [] S | none => .er)
  | r + 1, S =>
    (match cellAt S n len with
    | some xs => (match xs[len - (r + 1)]? with
      | some x => (f x S).bind fun ys S => (loopC f n len r S).bind fun zs S => .ok (ys ++ zs) S
      | none => .er)
    | none => .er)
def loopR (f : D → Sto → R (List D)) (s : Src) (S : Sto) : R (List D) :=
  match s with
  | .its xs => loopL f xs S
  | .cell n len => loopC f n len len S
def small (i : Int) : Bool := decide (-(2 ^ 62) ≤ i ∧ i < 2 ^ 62)
def rngL (lo hi : Int) : List D := (List.range (hi - lo).toNat).map fun k => .int (lo + (k : Nat))
def rngF (as : List D) (S : Sto) : R Src :=
  match as with
  | [.int j] => if small j then .ok (.its (rngL 0 j)) S else .er
  | [.int i, .int j] => if small i && small j then .ok (.its (rngL i j)) S else .er
  | _ => .er
def itF (a : D) (S : Sto) : R Src :=
  match a with
  | .lst _ xs => .ok (.its (frzL xs)) S
  | .tup xs => .ok (.its (frzL xs)) S
  | .ref n => (match S[n]? with | some (.lst _ xs) => .ok (.cell n xs.length) S | _ => .er)
  | _ => .er
/-- within a comprehension nothing is raised -/
def R.noex {α : Type} : R α → R α
  | .ok a S => .ok a S
  | .ex _ _ _ => .er
  | .er => .er
/-- a list that may change -/
def isCell (S : Sto) (d : D) : Bool :=
  match d with
  | .ref n => (match S[n]? with | some (.lst _ _) => true | _ => false)
  | _ => false
mutual
def asgV (t : Tg) (d : D) (σ : Env) (S : Sto) : Option Env :=
  match t with
  | .nm i => if i < σ.length then some (σ.set i (some d)) else none
  | .tup ts => (match look S d with | some (.tup xs) => asgL ts xs σ S | some (.lst _ xs) => asgL ts xs σ S | _ => none)
def asgL (ts : List Tg) (xs : List D) (σ : Env) (S : Sto) : Option Env :=
  match ts, xs with
  | [], [] => some σ
  | t :: ts, x :: xs => (match asgV t x σ S with | some σ => asgL ts xs σ S | none => none)
  | _, _ => none
end
def wipeE (σ : Env) : List Nat → Env
  | [] => σ
  | v :: vs => (wipeE σ vs).set v none
/-- values in the parameters' order -/
def pickA {α : Type} (n : Nat) (ps : List Nat) (xs : List α) : List α := (List.range n).filterMap fun i => (ps.zip xs).lookup i
def toI : D → Option Int
  | .int i => some i
  | _ => none

section
variable (T : Pg) (C : List Nat → Nat → List D → Sto → R D) (b : List Nat)
def attrF (d : D) (f : Nat) (S : Sto) : R D :=
  match look S d with
  | some (.ins _ c vs) => (match T.cs[c]? with | some k => R.ofO ((k.fs.idxOf? f).bind (vs[·]?)) S | none => .er)
  | _ => .er
/-- a field of the exception that is being handled -/
def xatF (d : Option (Option D)) (f : Nat) (S : Sto) : R D :=
  match d with
  | some (some (.exc c vs)) => (match T.cs[c]? with | some k => R.ofO ((k.fs.idxOf? f).bind (vs[·]?)) S | none => .er)
  | _ => .er
def newF (c : Nat) (vs : List D) (S : Sto) : R D :=
  match T.cs[c]? with
  | some k =>
    if k.exc then .er else
    (match C (S.length :: b) k.init (.ref S.length :: vs) (S ++ [.ins true c []]) with
    | .ok .non S2 => (match leave S.length (.ref S.length) S2 with | some (d, S3) => .ok d S3 | none => .er)
    | .ok _ _ => .er
    | .ex c vs S2 => (match leaveL S.length vs S2 with | some (vs, S3) => .ex c vs S3 | none => .er)
    | .er => .er)
  | none => .er
def umethF (m : Nat) (x : D) (vs : List D) (S : Sto) : R D :=
  match look S x with
  | some (.ins _ c _) => (match (T.cs[c]?).bind (·.ms.lookup m) with | some k => C b k (x :: vs) S | none => .er)
  | _ => .er
/-- o.f = v -/
def fldF (b : List Nat) (o : D) (f : Nat) (v : D) (S : Sto) : Option Sto :=
  match o with
  | .ref n =>
    (match S[n]? with
    | some (.ins _ c vs) =>
      (match (T.cs[c]?).bind (·.fs.idxOf? f) with
      | some i => if okB b n v then
          (if i < vs.length then some (S.set n (.ins true c (vs.set i v))) else if i = vs.length then some (S.set n (.ins true c (vs ++ [v]))) else none) else none
      | none => none)
    | _ => none)
  | _ => none
mutual
def ev : E → Env → Sto → R D
  | .cst d, _, S => .ok d S
  | .var i, σ, S => (match σ[i]? with | some (some d) => .ok d S | _ => .er)
  | .bin o x y, σ, S => (ev x σ S).bind fun x S => (ev y σ S).bind fun y S => binF o x y S
  | .neg x, σ, S => (ev x σ S).bind fun x S => R.ofO ((toI x).map fun i => .int (-i)) S
  | .not x, σ, S => (evT x σ S).bind fun c S => .ok (.bl (!c)) S
  | .and x y, σ, S => (ev x σ S).bind fun x S => (match x with | .bl true => ev y σ S | .bl false => .ok (.bl false) S | _ => .er)
  | .or x y, σ, S => (ev x σ S).bind fun x S => (match x with | .bl false => ev y σ S | .bl true => .ok (.bl true) S | _ => .er)
  | .ite c x y, σ, S => (evT c σ S).bind fun c S => if c then ev x σ S else ev y σ S
  | .cmp o x y, σ, S => (ev x σ S).bind fun x S => (ev y σ S).bind fun y S => R.ofO ((cmpF o x y S).map .bl) S
  | .chn o p x y z, σ, S => (ev x σ S).bind fun x S => (ev y σ S).bind fun y S => (match cmpF o x y S with
      | some true => (ev z σ S).bind fun z S => R.ofO ((cmpF p y z S).map .bl) S
      | some false => .ok (.bl false) S
      | none => .er)
  | .tup es, σ, S => (evs es σ S).bind fun xs S => if xs.length ≤ sizeLine then .ok (.tup xs) S else .er
  | .lst es, σ, S => (evs es σ S).bind fun xs S => if xs.length ≤ sizeLine then .ok (.lst true xs) S else .er
  | .star _, _, _ => .er
  | .sub x i, σ, S => (ev x σ S).bind fun x S => (ev i σ S).bind fun i S => subF x i S
  | .slc x lo hi, σ, S => (ev x σ S).bind fun x S => (evO lo σ S).bind fun lo S => (evO hi σ S).bind fun hi S => slcF x lo hi S
  | .rev x, σ, S => (ev x σ S).bind fun x S => revF x S
  | .attr x f, σ, S => (ev x σ S).bind fun x S => attrF T x f S
  | .xat i f, σ, S => xatF T σ[i]? f S
  | .call k es, σ, S => (evs es σ S).bind fun vs S => C b k (frzL vs) S
  | .callK k es ps, σ, S => (evs es σ S).bind fun vs S => if vs.length = ps.length then C b k (pickA vs.length ps (frzL vs)) S else .er
  | .new c es, σ, S => (evs es σ S).bind fun vs S => newF T C b c (frzL vs) S
  | .prim p es, σ, S => (evs es σ S).bind fun vs S => primF p vs S
  | .meth m x es, σ, S => (ev x σ S).bind fun x S => if (kids S x).isSome then (evs es σ S).bind fun vs S => methF m x vs S else .er
  | .umeth m x es, σ, S => (ev x σ S).bind fun x S => (evs es σ S).bind fun vs S => umethF T C b m (frz x) (frzL vs) S
  | .mut m x es, σ, S => (ev x σ S).bind fun x S => if isCell S x then (evs es σ S).bind fun vs S => mutF m b x (frzL vs) S else .er
  | .lc _ _ [], _, _ => .er
  | .lc own elt (.mk t it ifs :: gs), σ, S => (evI it σ S).bind fun s S => (loopR (fun x S => R.noex (match asgV t x (wipeE σ own) S with
      | some σ => (evC ifs σ S).bind fun c S => if c then evG gs σ S fun σ S => (ev elt σ S).bind fun d S => .ok [d] S else .ok [] S
      | none => .er)) s S).bind fun xs S => if xs.length < sizeLine then .ok (.lst true xs) S else .er
  | .pl k x, σ, S => (ev x σ S).bind fun x S => .ok (plant k x S).1 (plant k x S).2
def evT : Q → Env → Sto → R Bool
  | .not x, σ, S => (evT x σ S).bind fun c S => .ok (!c) S
  | .and x y, σ, S => (evT x σ S).bind fun c S => if c then evT y σ S else .ok false S
  | .or x y, σ, S => (evT x σ S).bind fun c S => if c then .ok true S else evT y σ S
  | .e x, σ, S => (ev x σ S).bind fun x S => R.ofO (truth S x) S
termination_by structural q => q
def evO : Option E → Env → Sto → R (Option Int)
  | none, _, S => .ok none S
  | some e, σ, S => (ev e σ S).bind fun x S => R.ofO ((toI x).map some) S
def evs : List E → Env → Sto → R (List D)
  | [], _, S => .ok [] S
  | .star e :: es, σ, S => (ev e σ S).bind fun x S => (match kids S x with | some xs => (evs es σ S).bind fun ys S => .ok (xs ++ ys) S | none => .er)
  | e :: es, σ, S => (ev e σ S).bind fun x S => (evs es σ S).bind fun ys S => .ok (x :: ys) S
def evI : It → Env → Sto → R Src
  | .e x, σ, S => (ev x σ S).bind fun x S => itF x S
  | .rng es, σ, S => (evs es σ S).bind fun vs S => rngF vs S
def evG : List G → Env → Sto → (Env → Sto → R (List D)) → R (List D)
  | [], σ, S, k => k σ S
  | .mk t it ifs :: gs, σ, S, k => (evI it σ S).bind fun s S => loopR (fun x S => (match asgV t x σ S with
      | some σ => (evC ifs σ S).bind fun c S => if c then evG gs σ S k else .ok [] S
      | none => .er)) s S
def evC : List Q → Env → Sto → R Bool
  | [], _, S => .ok true S
  | e :: es, σ, S => (evT e σ S).bind fun c S => if c then evC es σ S else .ok false S
end

inductive RS where
  | nx (σ : Env) (S : Sto)
  | rt (d : D) (S : Sto)
  | bk (σ : Env) (S : Sto)
  | ct (σ : Env) (S : Sto)
  | ex (c : Nat) (vs : List D) (σ : Env) (S : Sto)
  | er
def RS.of {α : Type} (r : R α) (σ : Env) (f : α → Sto → RS) : RS :=
  match r with
  | .ok a S => f a S
  | .ex c vs S => .ex c vs σ S
  | .er => .er
/-- a loop's turns; ends by nx where the items are used up -/
def forL (f : D → Env → Sto → RS) : List D → Env → Sto → RS
  | [], σ, S => .nx σ S
  | x :: xs, σ, S =>
    (match f x σ S with
    | .nx σ S => forL f xs σ S
    | .ct σ S => forL f xs σ S
    | .bk σ S => .nx σ S
    | r => r)
def forC (f : D → Env → Sto → RS) (n len : Nat) : Nat → Env → Sto → RS
  | 0, σ, S => (match cellAt S n len with | some _ => .nx σ S | none => .er)
  | r + 1, σ, S =>
    (match cellAt S n len with
    | some xs => (match xs[len - (r + 1)]? with
      | some x =>
        (match f x σ S with
        | .nx σ S => forC f n len r σ S
        | .ct σ S => forC f n len r σ S
        | .bk σ S => .nx σ S
        | r => r)
      | none => .er)
    | none => .er)
def forR (f : D → Env → Sto → RS) (s : Src) (σ : Env) (S : Sto) : RS :=
  match s with
  | .its xs => forL f xs σ S
  | .cell n len => forC f n len len σ S
def whlF (c : Env → Sto → R Bool) (f : Env → Sto → RS) : Nat → Env → Sto → RS
  | 0, _, _ => .er
  | n + 1, σ, S => RS.of (c σ S) σ fun t S => if t then
      (match f σ S with
      | .nx σ S => whlF c f n σ S
      | .ct σ S => whlF c f n σ S
      | .bk σ S => .nx σ S
      | r => r) else .nx σ S
def subC (c h : Nat) : Option Bool := match T.cs[c]? with | some k => if k.exc then some (k.sup.contains h) else none | none => none
/-- behind an except suite: its name goes -/
def unName (i : Nat) : RS → RS
  | .nx σ S => .nx (σ.set i none) S
  | .bk σ S => .bk (σ.set i none) S
  | .ct σ S => .ct (σ.set i none) S
  | .rt d S => .rt d S
  | .ex _ _ _ _ => .er
  | .er => .er
mutual
def exec : S → Env → Sto → RS
  | .expr e, σ, S => RS.of (ev T C b e σ S) σ fun _ S => .nx σ S
  | .asg t e, σ, S => RS.of (ev T C b e σ S) σ fun d S => (match asgV t (frz d) σ S with | some σ => .nx σ S | none => .er)
  | .par i j x y, σ, S => RS.of (ev T C b x σ S) σ fun x S => RS.of (ev T C b y σ S) σ fun y S => if i < σ.length ∧ j < σ.length then .nx ((σ.set i (some (frz x))).set j (some (frz y))) S else .er
  | .put o i e, σ, S => RS.of (ev T C b e σ S) σ fun v S => RS.of (ev T C b o σ S) σ fun o S => RS.of (ev T C b i σ S) σ fun i S => (match putF b o i (frz v) S with | some S => .nx σ S | none => .er)
  | .fld o f e, σ, S => RS.of (ev T C b e σ S) σ fun v S => RS.of (ev T C b o σ S) σ fun o S => (match fldF T b o f (frz v) S with | some S => .nx σ S | none => .er)
  | .aug i o e, σ, S => (match σ[i]? with
      | some (some (.int x)) => RS.of (ev T C b e σ S) σ fun y S => (match o, y with
        | .Add, .int y => .nx (σ.set i (some (.int (x + y)))) S
        | .Sub, .int y => .nx (σ.set i (some (.int (x - y)))) S
        | _, _ => .er)
      | _ => .er)
  | .ret none, _, S => .rt .non S
  | .ret (some e), σ, S => RS.of (ev T C b e σ S) σ fun d S => .rt d S
  | .ite c t e, σ, S => RS.of (evT T C b c σ S) σ fun c S => if c then execs t σ S else execs e σ S
  | .for_ t it body, σ, S => RS.of (evI T C b it σ S) σ fun s S => forR (fun x σ S => (match asgV t x σ S with | some σ => execs body σ S | none => .er)) s σ S
  | .whl n c body, σ, S => whlF (evT T C b c) (execs body) n σ S
  | .brk, σ, S => .bk σ S
  | .cnt, σ, S => .ct σ S
  | .pass, σ, S => .nx σ S
  | .raise c es, σ, S => RS.of (evs T C b es σ S) σ fun vs S => (match T.cs[c]? with | some k => if k.exc = true ∧ vs.length = k.fs.length then .ex c (frzL vs).reverse σ S else .er | none => .er)
  | .try_ body hs, σ, S => (match execs body σ S with
      | .ex c vs σ S => handle hs c vs σ S
      | r => r)
def execs : List S → Env → Sto → RS
  | [], σ, S => .nx σ S
  | s :: r, σ, S => (match exec s σ S with
    | .nx σ S => execs r σ S
    | q => q)
def handle : List H → Nat → List D → Env → Sto → RS
  | [], c, vs, σ, S => .ex c vs σ S
  | .mk h i body :: r, c, vs, σ, S => (match subC T c h with | some true => unName i (execs body (σ.set i (some (.exc c vs))) S) | some false => handle r c vs σ S | none => .er)
end
end
/-- the def k, its calls n deep -/
def callF (T : Pg) : Nat → List Nat → Nat → List D → Sto → R D
  | 0, _, _, _, _ => .er
  | n + 1, bs, k, as, S =>
    match T.ds[k]? with
    | none => .er
    | some d =>
      if as.length = d.np ∧ d.np ≤ d.nn then
        (match execs T (callF T n) (S.length :: bs) d.body (as.map some ++ List.replicate (d.nn - d.np) none) S with
        | .rt v S2 => (match leave S.length v S2 with | some (v, S3) => .ok v S3 | none => .er)
        | .nx _ S2 => (match leave S.length .non S2 with | some (v, S3) => .ok v S3 | none => .er)
        | .ex c vs _ S2 => (match leaveL S.length vs S2 with | some (vs, S3) => .ex c vs S3 | none => .er)
        | _ => .er)
      else .er
end Dl
end

section
set_option Elab.async false
set_option linter.all false
set_option maxRecDepth 100000
/-! D3: how data lie in the abstract heap. -/
namespace Dl
open PySem PySem.Spec PyProof.Rows L2

/-- where the defs and classes stand, the names of fields and methods -/
structure Ad where
  fn : Nat → Addr
  cl : Nat → Addr
  nm : Nat → Str
  /-- the exception that is being handled: its address, its dict, its class, its name's slot -/
  xa : Option (Addr × Addr × Nat × Nat)

def keyD : Key → D
  | .inl i => .int i
  | .inr x => .str x

/-- a tuple that stands at a: its object is known to be plain -/
def TpH (H : Hp) (a : Addr) (vs : List V) : Prop := ∃ o : Obj, o.dict = none ∧ H a = some (.frz o (.tup vs))
theorem TpH.rd {H : Hp} {a : Addr} {vs : List V} (h : TpH H a vs) : Rd H a (.tup vs) := let ⟨o, _, e⟩ := h; .inr ⟨o, e⟩
theorem TpH.sq {K : PySem.W.Frag} {H : Hp} {a : Addr} {vs : List V} (h : TpH H a vs) : SqT K H a vs := .inl h.rd
section
variable (T : Pg) (ad : Ad) (H : Hp) (mu : List Addr) (nu : Addr → Prop)
/-- the names of the fields of the class c -/
def fnm (c : Nat) : List Str := match T.cs[c]? with | some k => k.fs.map ad.nm | none => []

mutual
/-- frozen data; nu: what it may not touch (cells, and what is held alone) -/
inductive Rep : V → D → Prop
  | non : Rep .non .non
  | bl (b : Bool) : Rep (.bl b) (.bl b)
  | int (i : Int) : Rep (.int i) (.int i)
  | str (x : Str) : Rep (.str x) (.str x)
  | tup {a : Addr} {vs : List V} {ds : List D} : ¬ nu a → TpH H a vs → RepL vs ds → Rep (.ref a) (.tup ds)
  | lst {a : Addr} {vs : List V} {ds : List D} : ¬ nu a → Rd H a (.lst vs) → RepL vs ds → Rep (.ref a) (.lst false ds)
  | dic {a : Addr} {kvs : List (Key × V)} {vs : List D} : ¬ nu a → H a = some (.dK kvs) → RepL (kvs.map (·.2)) vs → Rep (.ref a) (.dic false (kvs.map fun p => keyD p.1) vs)
  | ins {a dx : Addr} {c : Nat} {vs : List V} {ds : List D} : T.isI c → ¬ nu a → H a = some (.ins (ad.cl c) dx ((fnm T ad c).zip vs)) → vs.length ≤ (fnm T ad c).length → RepL vs ds → Rep (.ref a) (.ins false c ds)
  | ref {a : Addr} {n : Nat} : mu[n]? = some a → Rep (.ref a) (.ref n)
  | fn (k : Nat) : Rep (.ref (ad.fn k)) (.fn k)
inductive RepL : List V → List D → Prop
  | nil : RepL [] []
  | cons {v : V} {d : D} {vs : List V} {ds : List D} : Rep v d → RepL vs ds → RepL (v :: vs) (d :: ds)
end
mutual
/-- data in flight; fp: what is held alone -/
inductive RepO : V → D → List Addr → Prop
  | of {v : V} {d : D} : Rep T ad H mu nu v d → RepO v d []
  | tup {a : Addr} {vs : List V} {ds : List D} {fp : List Addr} : ¬ nu a → TpH H a vs → RepOL vs ds fp → RepO (.ref a) (.tup ds) fp
  | lst {a : Addr} {vs : List V} {ds : List D} {fp : List Addr} : a ∉ mu → H a = some (.lst vs) → RepOL vs ds fp → RepO (.ref a) (.lst true ds) (a :: fp)
  | dic {a : Addr} {kvs : List (Key × V)} {vs : List D} {fp : List Addr} : a ∉ mu → H a = some (.dK kvs) → RepOL (kvs.map (·.2)) vs fp → RepO (.ref a) (.dic true (kvs.map fun p => keyD p.1) vs) (a :: fp)
  | ins {a dx : Addr} {c : Nat} {vs : List V} {ds : List D} {fp : List Addr} : T.isI c → a ∉ mu → H a = some (.ins (ad.cl c) dx ((fnm T ad c).zip vs)) → vs.length ≤ (fnm T ad c).length → RepOL vs ds fp → RepO (.ref a) (.ins true c ds) (a :: fp)
inductive RepOL : List V → List D → List Addr → Prop
  | nil : RepOL [] [] []
  | cons {v : V} {d : D} {vs : List V} {ds : List D} {fp gp : List Addr} : RepO v d fp → RepOL vs ds gp → RepOL (v :: vs) (d :: ds) (fp ++ gp)
end
/-- what stands in the slot i: the exception that is being handled stands in its own -/
inductive EnvAt : Nat → V → D → Prop
  | of {i : Nat} {v : V} {d : D} : Rep T ad H mu nu v d → EnvAt i v d
  | exc {i : Nat} {a dx : Addr} {c : Nat} {vs : List V} {ds : List D} : ad.xa = some (a, dx, c, i) → ¬ nu dx → H dx = some (.xd ((fnm T ad c).zip vs)) → RepL T ad H mu nu vs ds → EnvAt i (.ref a) (.exc c ds)
/-- a cell's content -/
inductive RepC : Addr → D → Prop
  | lst {a : Addr} {vs : List V} {ds : List D} : H a = some (.lst vs) → RepL T ad H mu nu vs ds → RepC a (.lst true ds)
  | dic {a : Addr} {kvs : List (Key × V)} {vs : List D} : H a = some (.dK kvs) → RepL T ad H mu nu (kvs.map (·.2)) vs → RepC a (.dic true (kvs.map fun p => keyD p.1) vs)
  | ins {a dx : Addr} {c : Nat} {vs : List V} {ds : List D} : T.isI c → H a = some (.ins (ad.cl c) dx ((fnm T ad c).zip vs)) → vs.length ≤ (fnm T ad c).length → RepL T ad H mu nu vs ds → RepC a (.ins true c ds)
end

/-- from one state to a later one -/
structure Stp (H : Hp) (mu : List Addr) (nu : Addr → Prop) (H' : Hp) (mu' : List Addr) (nu' : Addr → Prop) : Prop where
  keep : ∀ a o, H a = some o → a ∉ mu → H' a = some o ∧ a ∉ mu' ∧ (nu' a → nu a)
  pre : ∃ t, mu' = mu ++ t
  grow : ∀ a, nu a → nu' a
  trk : ∀ a o, H a = some o → ∃ o', H' a = some o'
  new : ∀ a, a ∈ mu' → a ∈ mu ∨ H a = none

/-- the store, the frame's names -/
structure Sta (T : Pg) (ad : Ad) (b : List Nat) (H : Hp) (mu : List Addr) (nu : Addr → Prop) (s : L2.St) (e : Env) (S : Sto) : Prop where
  len : e.length = s.length
  env : ∀ (i : Nat) (d : D), e[i]? = some (some d) → ∃ v, s[i]? = some (some v) ∧ EnvAt T ad H mu nu i v d
  num : S.length = mu.length
  cel : ∀ (n : Nat) (a : Addr) (c : D), mu[n]? = some a → S[n]? = some c → RepC T ad H mu nu a c
  nd : mu.Nodup
  sub : ∀ a, a ∈ mu → nu a
  trk : ∀ a, nu a → ∃ o, H a = some o
  old : ∀ β, β ∈ b → ∀ (n : Nat) (c : D), n < β → S[n]? = some c → noR β c = true
  bse : ∀ β, β ∈ b → β ≤ S.length

section
variable {T : Pg} {ad : Ad} {H H' : Hp} {mu mu' : List Addr} {nu nu' : Addr → Prop}

theorem Stp.refl : Stp H mu nu H mu nu := ⟨fun a o h n => ⟨h, n, fun z => z⟩, ⟨[], by simp⟩, fun _ z => z, fun a o h => ⟨o, h⟩, fun a h => .inl h⟩
theorem Stp.trans {H2 : Hp} {mu2 : List Addr} {nu2 : Addr → Prop} (x : Stp H mu nu H' mu' nu') (y : Stp H' mu' nu' H2 mu2 nu2) : Stp H mu nu H2 mu2 nu2 where
  keep := fun a o h n => by
    obtain ⟨h1, n1, z1⟩ := x.keep a o h n
    obtain ⟨h2, n2, z2⟩ := y.keep a o h1 n1
    exact ⟨h2, n2, fun z => z1 (z2 z)⟩
  pre := by
    obtain ⟨t, e⟩ := x.pre
    obtain ⟨t', e'⟩ := y.pre
    exact ⟨t ++ t', by rw [e', e, List.append_assoc]⟩
  grow := fun a z => y.grow a (x.grow a z)
  trk := fun a o h => by
    obtain ⟨o1, h1⟩ := x.trk a o h
    exact y.trk a o1 h1
  new := fun a h => by
    rcases y.new a h with h | h
    · exact x.new a h
    · refine .inr ?_
      cases e : H a with
      | none => rfl
      | some o =>
        obtain ⟨o', e'⟩ := x.trk a o e
        rw [h] at e'
        cases e'
theorem Stp.get {n : Nat} {a : Addr} (x : Stp H mu nu H' mu' nu') (h : mu[n]? = some a) : mu'[n]? = some a := by
  obtain ⟨t, e⟩ := x.pre
  rw [e, List.getElem?_append_left (List.getElem?_eq_some_iff.mp h).1]
  exact h
theorem Stp.free {a : Addr} (x : Stp H mu nu H' mu' nu') (h : H' a = none) : H a = none := by
  cases e : H a with
  | none => rfl
  | some o =>
    obtain ⟨o', e'⟩ := x.trk a o e
    rw [h] at e'
    cases e'

/-- what is asked of another heap so that frozen data stand there -/
structure Kp (H : Hp) (mu : List Addr) (nu : Addr → Prop) (H' : Hp) (mu' : List Addr) (nu' : Addr → Prop) : Prop where
  at_ : ∀ a o, H a = some o → ¬ nu a → H' a = some o ∧ ¬ nu' a
  ref : ∀ (n : Nat) (a : Addr), mu[n]? = some a → mu'[n]? = some a
theorem Stp.keeps (x : Stp H mu nu H' mu' nu') (sub : ∀ a, a ∈ mu → nu a) : Kp H mu nu H' mu' nu' :=
  ⟨fun a o h n => let ⟨h1, _, z⟩ := x.keep a o h fun m => n (sub a m); ⟨h1, fun q => n (z q)⟩, fun _ _ h => x.get h⟩
theorem Kp.less {nu' : Addr → Prop} (h : ∀ a, nu' a → nu a) : Kp H mu nu H mu nu' := ⟨fun _ _ e n => ⟨e, fun z => n (h _ z)⟩, fun _ _ e => e⟩
theorem Kp.rd {a : Addr} {u : HO} (k : Kp H mu nu H' mu' nu') (n : ¬ nu a) (r : Rd H a u) : Rd H' a u ∧ ¬ nu' a := by
  rcases r with r | ⟨o, r⟩
  · exact ⟨.inl (k.at_ _ _ r n).1, (k.at_ _ _ r n).2⟩
  · exact ⟨.inr ⟨o, (k.at_ _ _ r n).1⟩, (k.at_ _ _ r n).2⟩
theorem Kp.tp {a : Addr} {vs : List V} (k : Kp H mu nu H' mu' nu') (n : ¬ nu a) (r : TpH H a vs) : TpH H' a vs ∧ ¬ nu' a := let ⟨o, h, e⟩ := r; ⟨⟨o, h, (k.at_ _ _ e n).1⟩, (k.at_ _ _ e n).2⟩
mutual
theorem Rep.keeps (k : Kp H mu nu H' mu' nu') : ∀ {v : V} (d : D), Rep T ad H mu nu v d → Rep T ad H' mu' nu' v d
  | _, .non, h => by cases h; exact .non
  | _, .bl _, h => by cases h; exact .bl _
  | _, .int _, h => by cases h; exact .int _
  | _, .str _, h => by cases h; exact .str _
  | _, .tup ds, h => by
    cases h with
    | tup n e r => exact .tup (k.tp n e).2 (k.tp n e).1 (RepL.keeps k ds r)
  | _, .lst o ds, h => by
    cases h with
    | lst n e r => exact .lst (k.rd n e).2 (k.rd n e).1 (RepL.keeps k ds r)
  | _, .dic o ks ds, h => by
    cases h with
    | dic n e r => exact .dic (k.at_ _ _ e n).2 (k.at_ _ _ e n).1 (RepL.keeps k ds r)
  | _, .set _ _, h => by cases h
  | _, .ins o c ds, h => by
    cases h with
    | ins hI n e l r => exact .ins hI (k.at_ _ _ e n).2 (k.at_ _ _ e n).1 l (RepL.keeps k ds r)
  | _, .ref _, h => by
    cases h with
    | ref e => exact .ref (k.ref _ _ e)
  | _, .fn _, h => by cases h; exact .fn _
  | _, .cls _, h => by cases h
  | _, .exc _ _, h => by cases h
theorem RepL.keeps (k : Kp H mu nu H' mu' nu') : ∀ {vs : List V} (ds : List D), RepL T ad H mu nu vs ds → RepL T ad H' mu' nu' vs ds
  | _, [], h => by cases h; exact .nil
  | _, d :: ds, h => by
    cases h with
    | cons h1 h2 => exact .cons (Rep.keeps k d h1) (RepL.keeps k ds h2)
end
theorem EnvAt.keeps (k : Kp H mu nu H' mu' nu') {i : Nat} {v : V} {d : D} (h : EnvAt T ad H mu nu i v d) : EnvAt T ad H' mu' nu' i v d := by
  cases h with
  | of r => exact .of (r.keeps k)
  | exc hx n e r => exact .exc hx (k.at_ _ _ e n).2 (k.at_ _ _ e n).1 (r.keeps k)
/-- the same of data in flight: its own objects are no cells -/
structure KpO (H : Hp) (mu : List Addr) (nu : Addr → Prop) (H' : Hp) (mu' : List Addr) (nu' : Addr → Prop) : Prop extends Kp H mu nu H' mu' nu' where
  own : ∀ a o, H a = some o → a ∉ mu → H' a = some o ∧ a ∉ mu'
theorem Stp.keepsO (x : Stp H mu nu H' mu' nu') (sub : ∀ a, a ∈ mu → nu a) : KpO H mu nu H' mu' nu' :=
  ⟨x.keeps sub, fun a o h n => let ⟨h1, h2, _⟩ := x.keep a o h n; ⟨h1, h2⟩⟩
mutual
theorem RepO.keeps (k : KpO H mu nu H' mu' nu') : ∀ {v : V} (d : D) {fp : List Addr}, RepO T ad H mu nu v d fp → RepO T ad H' mu' nu' v d fp
  | _, .non, _, h => by cases h with | of r => exact .of (r.keeps k.toKp)
  | _, .bl _, _, h => by cases h with | of r => exact .of (r.keeps k.toKp)
  | _, .int _, _, h => by cases h with | of r => exact .of (r.keeps k.toKp)
  | _, .str _, _, h => by cases h with | of r => exact .of (r.keeps k.toKp)
  | _, .tup ds, _, h => by
    cases h with
    | of r => exact .of (r.keeps k.toKp)
    | tup n e r => exact .tup (k.tp n e).2 (k.tp n e).1 (RepOL.keeps k ds r)
  | _, .lst o ds, _, h => by
    cases h with
    | of r => exact .of (r.keeps k.toKp)
    | lst n e r => exact .lst (k.own _ _ e n).2 (k.own _ _ e n).1 (RepOL.keeps k ds r)
  | _, .dic o ks ds, _, h => by
    cases h with
    | of r => exact .of (r.keeps k.toKp)
    | dic n e r => exact .dic (k.own _ _ e n).2 (k.own _ _ e n).1 (RepOL.keeps k ds r)
  | _, .set _ _, _, h => by cases h with | of r => exact .of (r.keeps k.toKp)
  | _, .ins o c ds, _, h => by
    cases h with
    | of r => exact .of (r.keeps k.toKp)
    | ins hI n e l r => exact .ins hI (k.own _ _ e n).2 (k.own _ _ e n).1 l (RepOL.keeps k ds r)
  | _, .ref _, _, h => by cases h with | of r => exact .of (r.keeps k.toKp)
  | _, .fn _, _, h => by cases h with | of r => exact .of (r.keeps k.toKp)
  | _, .cls _, _, h => by cases h with | of r => exact .of (r.keeps k.toKp)
  | _, .exc _ _, _, h => by cases h with | of r => exact .of (r.keeps k.toKp)
theorem RepOL.keeps (k : KpO H mu nu H' mu' nu') : ∀ {vs : List V} (ds : List D) {fp : List Addr}, RepOL T ad H mu nu vs ds fp → RepOL T ad H' mu' nu' vs ds fp
  | _, [], _, h => by cases h; exact .nil
  | _, d :: ds, _, h => by
    cases h with
    | cons h1 h2 => exact .cons (RepO.keeps k d h1) (RepOL.keeps k ds h2)
end
mutual
/-- frozen data bear no flag -/
theorem Rep.frz : ∀ {v : V} (d : D), Rep T ad H mu nu v d → frz d = d
  | _, .non, _ => rfl
  | _, .bl _, _ => rfl
  | _, .int _, _ => rfl
  | _, .str _, _ => rfl
  | _, .tup ds, h => by
    cases h with
    | tup n e r => exact congrArg D.tup (RepL.frz ds r)
  | _, .lst o ds, h => by
    cases h with
    | lst n e r => exact congrArg (D.lst false) (RepL.frz ds r)
  | _, .dic o ks ds, h => by
    cases h with
    | dic n e r => exact congrArg (D.dic false _) (RepL.frz ds r)
  | _, .set _ _, h => by cases h
  | _, .ins o c ds, h => by
    cases h with
    | ins hI n e l r => exact congrArg (D.ins false c) (RepL.frz ds r)
  | _, .ref _, _ => rfl
  | _, .fn _, _ => rfl
  | _, .cls _, _ => rfl
  | _, .exc _ _, h => by cases h
theorem RepL.frz : ∀ {vs : List V} (ds : List D), RepL T ad H mu nu vs ds → frzL ds = ds
  | _, [], _ => rfl
  | _, d :: ds, h => by
    cases h with
    | cons h1 h2 =>
      show Dl.frz d :: frzL ds = d :: ds
      rw [Rep.frz d h1, RepL.frz ds h2]
end
mutual
/-- landed: what was held alone is let go -/
theorem RepO.frz {nu' : Addr → Prop} (h' : ∀ a, nu' a → nu a) : ∀ {v : V} (d : D) {fp : List Addr}, RepO T ad H mu nu v d fp → (∀ a, a ∈ fp → ¬ nu' a) → Rep T ad H mu nu' v (frz d)
  | _, .non, _, h, _ => by cases h with | of r => rw [r.frz]; exact r.keeps (.less h')
  | _, .bl _, _, h, _ => by cases h with | of r => rw [r.frz]; exact r.keeps (.less h')
  | _, .int _, _, h, _ => by cases h with | of r => rw [r.frz]; exact r.keeps (.less h')
  | _, .str _, _, h, _ => by cases h with | of r => rw [r.frz]; exact r.keeps (.less h')
  | _, .tup ds, _, h, hf => by
    cases h with
    | of r => rw [r.frz]; exact r.keeps (.less h')
    | tup n e r => exact .tup (fun z => n (h' _ z)) e (RepOL.frz h' ds r hf)
  | _, .lst o ds, _, h, hf => by
    cases h with
    | of r => rw [r.frz]; exact r.keeps (.less h')
    | lst n e r => exact .lst (hf _ (List.mem_cons_self ..)) (.inl e) (RepOL.frz h' ds r fun a m => hf a (List.mem_cons_of_mem _ m))
  | _, .dic o ks ds, _, h, hf => by
    cases h with
    | of r => rw [r.frz]; exact r.keeps (.less h')
    | dic n e r => exact .dic (hf _ (List.mem_cons_self ..)) e (RepOL.frz h' ds r fun a m => hf a (List.mem_cons_of_mem _ m))
  | _, .set _ _, _, h, _ => by cases h with | of r => rw [r.frz]; exact r.keeps (.less h')
  | _, .ins o c ds, _, h, hf => by
    cases h with
    | of r => rw [r.frz]; exact r.keeps (.less h')
    | ins hI n e l r => exact .ins hI (hf _ (List.mem_cons_self ..)) e l (RepOL.frz h' ds r fun a m => hf a (List.mem_cons_of_mem _ m))
  | _, .ref _, _, h, _ => by cases h with | of r => rw [r.frz]; exact r.keeps (.less h')
  | _, .fn _, _, h, _ => by cases h with | of r => rw [r.frz]; exact r.keeps (.less h')
  | _, .cls _, _, h, _ => by cases h with | of r => rw [r.frz]; exact r.keeps (.less h')
  | _, .exc _ _, _, h, _ => by cases h with | of r => rw [r.frz]; exact r.keeps (.less h')
theorem RepOL.frz {nu' : Addr → Prop} (h' : ∀ a, nu' a → nu a) : ∀ {vs : List V} (ds : List D) {fp : List Addr}, RepOL T ad H mu nu vs ds fp → (∀ a, a ∈ fp → ¬ nu' a) → RepL T ad H mu nu' vs (frzL ds)
  | _, [], _, h, _ => by cases h; exact .nil
  | _, d :: ds, _, h, hf => by
    cases h with
    | cons h1 h2 => exact .cons (RepO.frz h' d h1 fun a m => hf a (List.mem_append_left _ m)) (RepOL.frz h' ds h2 fun a m => hf a (List.mem_append_right _ m))
end
end
end Dl
end

section
set_option Elab.async false
set_option linter.all false
set_option maxRecDepth 100000
/-! D4: outcomes as readings. -/
namespace Dl
open PySem PySem.Spec PyProof.Rows L2

theorem pe_imp {X : Cx} {e : Expr} {t t' : TE} (p : PE X e t) (h : ∀ s H Q, t' s H Q → t s H Q) : PE X e t' := ⟨fun pins z s H Q I q => p.run pins z s H Q I (h _ _ _ q)⟩
theorem pt_imp {X : Cx} {e : Expr} {t t' : TT} (p : PT X e t) (h : ∀ s H Q, t' s H Q → t s H Q) : PT X e t' := ⟨fun pins z s H Q I q => p.run pins z s H Q I (h _ _ _ q)⟩
theorem pa_imp {X : Cx} {e : List Expr} {t t' : TA} (p : PA X e t) (h : ∀ s H Q, t' s H Q → t s H Q) : PA X e t' := ⟨fun pos pins z s H Q I q => p.run pos pins z s H Q I (h _ _ _ q)⟩
theorem ps_imp {X : Cx} {e : Stmt} {t t' : TS} (p : PS X e t) (h : ∀ D s H, t' D s H → t D s H) : PS X e t' := ⟨fun pins z s H D I q => p.run pins z s H D I (h _ _ _ q)⟩
theorem pss_imp {X : Cx} {e : List Stmt} {t t' : TS} (p : PSs X e t) (h : ∀ D s H, t' D s H → t D s H) : PSs X e t' := ⟨fun pins z s H D I q => p.run pins z s H D I (h _ _ _ q)⟩

def Own (nu : Addr → Prop) (fp : List Addr) : Prop := fp.Nodup ∧ ∀ a, a ∈ fp → nu a
theorem Own.nil {nu : Addr → Prop} : Own nu [] := ⟨List.nodup_nil, fun _ h => absurd h List.not_mem_nil⟩

section
variable (T : Pg) (ad : Ad) (b : List Nat) (W : WX)
/-- what an outcome asks of what follows -/
def Pst (s : L2.St) (e : Env) (r : R D) (H : Hp) (mu : List Addr) (nu : Addr → Prop) (f0 : List Addr) (Q : VK) : Prop :=
  match r with
  | .ok d S => ∀ v H' mu' nu' fp, Stp H mu nu H' mu' nu' → Sta T ad b H' mu' nu' s e S → RepO T ad H' mu' nu' v d fp → Own nu' fp → (∀ a, a ∈ fp → a ∈ f0 ∨ H a = none) → Q v H'
  | .ex c xs S => ∀ H' mu' nu' dx Vs, Stp H mu nu H' mu' nu' → Sta T ad b H' mu' nu' s e S → RepL T ad H' mu' nu' Vs xs → ¬ nu' dx → H' dx = some (.xd ((fnm T ad c).zip Vs)) → W (.ref (ad.cl c)) (some dx) s H'
  | .er => False
def PstL (s : L2.St) (e : Env) (r : R (List D)) (H : Hp) (mu : List Addr) (nu : Addr → Prop) (f0 : List Addr) (Q : List V → Hp → Prop) : Prop :=
  match r with
  | .ok ds S => ∀ vs H' mu' nu' fp, Stp H mu nu H' mu' nu' → Sta T ad b H' mu' nu' s e S → RepOL T ad H' mu' nu' vs ds fp → Own nu' fp → (∀ a, a ∈ fp → a ∈ f0 ∨ H a = none) → Q vs H'
  | .ex c xs S => ∀ H' mu' nu' dx Vs, Stp H mu nu H' mu' nu' → Sta T ad b H' mu' nu' s e S → RepL T ad H' mu' nu' Vs xs → ¬ nu' dx → H' dx = some (.xd ((fnm T ad c).zip Vs)) → W (.ref (ad.cl c)) (some dx) s H'
  | .er => False
def PstB (s : L2.St) (e : Env) (r : R Bool) (H : Hp) (mu : List Addr) (nu : Addr → Prop) (Q : Bool → Hp → Prop) : Prop :=
  match r with
  | .ok c S => ∀ H' mu' nu', Stp H mu nu H' mu' nu' → Sta T ad b H' mu' nu' s e S → Q c H'
  | .ex c xs S => ∀ H' mu' nu' dx Vs, Stp H mu nu H' mu' nu' → Sta T ad b H' mu' nu' s e S → RepL T ad H' mu' nu' Vs xs → ¬ nu' dx → H' dx = some (.xd ((fnm T ad c).zip Vs)) → W (.ref (ad.cl c)) (some dx) s H'
  | .er => False
def Sst (r : RS) (H : Hp) (mu : List Addr) (nu : Addr → Prop) (D' : Ends) : Prop :=
  match r with
  | .nx e S => ∀ s H' mu' nu', Stp H mu nu H' mu' nu' → Sta T ad b H' mu' nu' s e S → D'.nx s H'
  | .bk e S => ∀ s H' mu' nu', Stp H mu nu H' mu' nu' → Sta T ad b H' mu' nu' s e S → D'.bk s H'
  | .ct e S => ∀ s H' mu' nu', Stp H mu nu H' mu' nu' → Sta T ad b H' mu' nu' s e S → D'.ct s H'
  | .rt d S => ∀ v s e H' mu' nu' fp, Stp H mu nu H' mu' nu' → Sta T ad b H' mu' nu' s e S → RepO T ad H' mu' nu' v d fp → Own nu' fp → (∀ a, a ∈ fp → H a = none) → D'.rt v H'
  | .ex c xs e S => ∀ s H' mu' nu' dx Vs, Stp H mu nu H' mu' nu' → Sta T ad b H' mu' nu' s e S → RepL T ad H' mu' nu' Vs xs → ¬ nu' dx → H' dx = some (.xd ((fnm T ad c).zip Vs)) → W (.ref (ad.cl c)) (some dx) s H'
  | .er => False
/-- the readings -/
def tE (r : Env → Sto → R D) : TE := fun s H Q => ∃ mu nu e S, Sta T ad b H mu nu s e S ∧ Pst T ad b W s e (r e S) H mu nu [] Q
def tA (r : Env → Sto → R (List D)) : TA := fun s H Q => ∃ mu nu e S, Sta T ad b H mu nu s e S ∧ PstL T ad b W s e (r e S) H mu nu [] Q
def tQ (r : Env → Sto → R Bool) : TT := fun s H Q => ∃ mu nu e S, Sta T ad b H mu nu s e S ∧ PstB T ad b W s e (r e S) H mu nu Q
def tX (r : Env → Sto → RS) : TS := fun D' s H => ∃ mu nu e S, Sta T ad b H mu nu s e S ∧ Sst T ad b W (r e S) H mu nu D'
end

section
variable {T : Pg} {ad : Ad} {b : List Nat} {W : WX} {s : L2.St} {e : Env} {H H1 : Hp} {mu mu1 : List Addr} {nu nu1 : Addr → Prop} {f0 f1 : List Addr}
theorem Stp.fr {a : Addr} (x : Stp H mu nu H1 mu1 nu1) (h : a ∈ f0 ∨ H1 a = none) (hf : ∀ a, a ∈ f0 → H a = none) : H a = none := by
  rcases h with h | h
  · exact hf a h
  · exact x.free h
theorem Pst.step {r : R D} {Q : VK} (x : Stp H mu nu H1 mu1 nu1) (hf : ∀ a, a ∈ f1 → a ∈ f0 ∨ H a = none) (p : Pst T ad b W s e r H mu nu f0 Q) : Pst T ad b W s e r H1 mu1 nu1 f1 Q := by
  cases r with
  | ok d S =>
    exact fun v H' mu' nu' fp x' st ro ow fr => p v H' mu' nu' fp (x.trans x') st ro ow fun a h => by
      rcases fr a h with h | h
      · exact hf a h
      · exact .inr (x.free h)
  | ex c xs S => exact fun H' mu' nu' dx Vs x' st rl nx hx => p H' mu' nu' dx Vs (x.trans x') st rl nx hx
  | er => exact p
theorem PstL.step {r : R (List D)} {Q : List V → Hp → Prop} (x : Stp H mu nu H1 mu1 nu1) (hf : ∀ a, a ∈ f1 → a ∈ f0 ∨ H a = none) (p : PstL T ad b W s e r H mu nu f0 Q) : PstL T ad b W s e r H1 mu1 nu1 f1 Q := by
  cases r with
  | ok d S =>
    exact fun v H' mu' nu' fp x' st ro ow fr => p v H' mu' nu' fp (x.trans x') st ro ow fun a h => by
      rcases fr a h with h | h
      · exact hf a h
      · exact .inr (x.free h)
  | ex c xs S => exact fun H' mu' nu' dx Vs x' st rl nx hx => p H' mu' nu' dx Vs (x.trans x') st rl nx hx
  | er => exact p
theorem PstB.step {r : R Bool} {Q : Bool → Hp → Prop} (x : Stp H mu nu H1 mu1 nu1) (p : PstB T ad b W s e r H mu nu Q) : PstB T ad b W s e r H1 mu1 nu1 Q := by
  cases r with
  | ok d S => exact fun H' mu' nu' x' st => p H' mu' nu' (x.trans x') st
  | ex c xs S => exact fun H' mu' nu' dx Vs x' st rl nx hx => p H' mu' nu' dx Vs (x.trans x') st rl nx hx
  | er => exact p
theorem Sst.step {r : RS} {D' : Ends} (x : Stp H mu nu H1 mu1 nu1) (p : Sst T ad b W r H mu nu D') : Sst T ad b W r H1 mu1 nu1 D' := by
  cases r with
  | nx e S => exact fun s H' mu' nu' x' st => p s H' mu' nu' (x.trans x') st
  | bk e S => exact fun s H' mu' nu' x' st => p s H' mu' nu' (x.trans x') st
  | ct e S => exact fun s H' mu' nu' x' st => p s H' mu' nu' (x.trans x') st
  | rt d S => exact fun v s e H' mu' nu' fp x' st ro ow fr => p v s e H' mu' nu' fp (x.trans x') st ro ow fun a h => x.free (fr a h)
  | ex c xs e S => exact fun s H' mu' nu' dx Vs x' st rl nx hx => p s H' mu' nu' dx Vs (x.trans x') st rl nx hx
  | er => exact p

/-- an expression, then what its value is used for -/
theorem tE_bind {r : Env → Sto → R D} {f : D → Sto → R D} {Q : VK} {S : Sto} {K : VK} (st : Sta T ad b H mu nu s e S) (p : Pst T ad b W s e ((r e S).bind f) H mu nu [] Q)
    (k : ∀ v d S1 H1 mu1 nu1 fp, Stp H mu nu H1 mu1 nu1 → Sta T ad b H1 mu1 nu1 s e S1 → RepO T ad H1 mu1 nu1 v d fp → Own nu1 fp → (∀ a, a ∈ fp → H a = none) → Pst T ad b W s e (f d S1) H1 mu1 nu1 fp Q → K v H1) :
    tE T ad b W r s H K := by
  refine ⟨mu, nu, e, S, st, ?_⟩
  cases h : r e S with
  | ok d S1 =>
    rw [h] at p
    intro v H1 mu1 nu1 fp x st1 ro ow fr
    have fr' : ∀ a, a ∈ fp → H a = none := fun a h => (fr a h).elim (fun z => absurd z List.not_mem_nil) id
    exact k v d S1 H1 mu1 nu1 fp x st1 ro ow fr' (Pst.step x (fun a h => .inr (fr' a h)) p)
  | ex c xs S1 =>
    rw [h] at p
    exact p
  | er =>
    rw [h] at p
    exact p.elim
theorem tA_bind {r : Env → Sto → R (List D)} {f : List D → Sto → R D} {Q : VK} {S : Sto} {K : List V → Hp → Prop} (st : Sta T ad b H mu nu s e S) (p : Pst T ad b W s e ((r e S).bind f) H mu nu [] Q)
    (k : ∀ vs ds S1 H1 mu1 nu1 fp, Stp H mu nu H1 mu1 nu1 → Sta T ad b H1 mu1 nu1 s e S1 → RepOL T ad H1 mu1 nu1 vs ds fp → Own nu1 fp → (∀ a, a ∈ fp → H a = none) → Pst T ad b W s e (f ds S1) H1 mu1 nu1 fp Q → K vs H1) :
    tA T ad b W r s H K := by
  refine ⟨mu, nu, e, S, st, ?_⟩
  cases h : r e S with
  | ok d S1 =>
    rw [h] at p
    intro v H1 mu1 nu1 fp x st1 ro ow fr
    have fr' : ∀ a, a ∈ fp → H a = none := fun a h => (fr a h).elim (fun z => absurd z List.not_mem_nil) id
    exact k v d S1 H1 mu1 nu1 fp x st1 ro ow fr' (Pst.step x (fun a h => .inr (fr' a h)) p)
  | ex c xs S1 =>
    rw [h] at p
    exact p
  | er =>
    rw [h] at p
    exact p.elim
/-- two values in flight -/
theorem Own.app {fp gp : List Addr} (sub : ∀ a, a ∈ mu → nu a) (x : Stp H mu nu H1 mu1 nu1) (o1 : Own nu fp) (o2 : Own nu1 gp) (hf : ∀ a, a ∈ gp → H a = none) (ht : ∀ a, a ∈ fp → ∃ o, H a = some o) : Own nu1 (fp ++ gp) :=
  ⟨List.nodup_append.mpr ⟨o1.1, o2.1, fun a h1 c h2 z => by
    subst z
    obtain ⟨o, q⟩ := ht a h1
    rw [hf a h2] at q
    cases q⟩, fun a h => (List.mem_append.mp h).elim (fun z => x.grow a (o1.2 a z)) (o2.2 a)⟩
end
end Dl
end

section
set_option Elab.async false
set_option linter.all false
set_option maxRecDepth 100000
/-! D5: values as they lie, new objects, cells. -/
namespace Dl
open PySem PySem.Spec PyProof.Rows L2

section
variable {T : Pg} {ad : Ad} {b : List Nat} {W : WX} {s : L2.St} {e : Env} {S : Sto} {H H1 : Hp} {mu mu1 : List Addr} {nu nu1 : Addr → Prop} {f0 f1 fp : List Addr} {v : V} {d : D} {vs : List V} {ds : List D}
/-! ### shapes -/
theorem RepO.non (h : RepO T ad H mu nu v .non fp) : v = .non ∧ fp = [] := by cases h with | of r => cases r; exact ⟨rfl, rfl⟩
theorem RepO.bl {c : Bool} (h : RepO T ad H mu nu v (.bl c) fp) : v = .bl c ∧ fp = [] := by cases h with | of r => cases r; exact ⟨rfl, rfl⟩
theorem RepO.int {i : Int} (h : RepO T ad H mu nu v (.int i) fp) : v = .int i ∧ fp = [] := by cases h with | of r => cases r; exact ⟨rfl, rfl⟩
theorem RepO.str {x : Str} (h : RepO T ad H mu nu v (.str x) fp) : v = .str x ∧ fp = [] := by cases h with | of r => cases r; exact ⟨rfl, rfl⟩
theorem RepO.fn_ {k : Nat} (h : RepO T ad H mu nu v (.fn k) fp) : v = .ref (ad.fn k) ∧ fp = [] := by cases h with | of r => cases r; exact ⟨rfl, rfl⟩
theorem RepO.ref {n : Nat} (h : RepO T ad H mu nu v (.ref n) fp) : ∃ a, v = .ref a ∧ fp = [] ∧ mu[n]? = some a := by cases h with | of r => cases r with | ref e => exact ⟨_, rfl, rfl, e⟩
mutual
theorem Rep.ofL : ∀ {vs : List V} (ds : List D), RepL T ad H mu nu vs ds → RepOL T ad H mu nu vs ds []
  | _, [], h => by cases h; exact .nil
  | _, d :: ds, h => by
    cases h with
    | cons h1 h2 => exact .cons (.of h1) (Rep.ofL ds h2)
end
theorem RepO.tup_ (h : RepO T ad H mu nu v (.tup ds) fp) : ∃ a vs, v = .ref a ∧ ¬ nu a ∧ TpH H a vs ∧ RepOL T ad H mu nu vs ds fp := by
  cases h with
  | of r => cases r with | tup n e r => exact ⟨_, _, rfl, n, e, Rep.ofL _ r⟩
  | tup n e r => exact ⟨_, _, rfl, n, e, r⟩
/-- a list, whatever its flag -/
theorem RepO.lst_ {o : Bool} (h : RepO T ad H mu nu v (.lst o ds) fp) : ∃ a vs gp, v = .ref a ∧ Rd H a (.lst vs) ∧ RepOL T ad H mu nu vs ds gp ∧ (∀ x, x ∈ gp → x ∈ fp) ∧ (fp.Nodup → gp.Nodup) := by
  cases h with
  | of r => cases r with | lst n e r => exact ⟨_, _, [], rfl, e, Rep.ofL _ r, fun _ z => z, fun z => z⟩
  | lst n e r => exact ⟨_, _, _, rfl, .inl e, r, fun _ z => List.mem_cons_of_mem _ z, fun z => (List.nodup_cons.mp z).2⟩
/-- what is read of a value: a list or a tuple, its items -/
inductive Seq (K : PySem.W.Frag) (H : Hp) : V → List V → Bool → Prop
  | lst {a : Addr} {vs : List V} : Rd H a (.lst vs) → Seq K H (.ref a) vs true
  | tup {a : Addr} {vs : List V} : TpH H a vs → Seq K H (.ref a) vs false
theorem Sta.cell {n : Nat} {c : D} {a : Addr} (st : Sta T ad b H mu nu s e S) (h : mu[n]? = some a) (hc : S[n]? = some c) : RepC T ad H mu nu a c := st.cel n a c h hc
theorem Sta.has {n : Nat} {c : D} (st : Sta T ad b H mu nu s e S) (hc : S[n]? = some c) : ∃ a, mu[n]? = some a ∧ RepC T ad H mu nu a c := by
  have hn : n < mu.length := by rw [← st.num]; exact (List.getElem?_eq_some_iff.mp hc).1
  exact ⟨mu[n], List.getElem?_eq_getElem hn, st.cel n _ c (List.getElem?_eq_getElem hn) hc⟩
theorem Sta.refAt {n : Nat} {c : D} {a : Addr} (st : Sta T ad b H mu nu s e S) (h : mu[n]? = some a) (hc : S[n]? = some c) : RepC T ad H mu nu a c := st.cel n a c h hc
/-- a list, whatever it is: frozen, held alone, a cell -/
theorem look_lst {K : PySem.W.Frag} {o : Bool} (st : Sta T ad b H mu nu s e S) (ro : RepO T ad H mu nu v d fp) (h : look S d = some (.lst o ds)) :
    ∃ a vs gp, v = .ref a ∧ Rd H a (.lst vs) ∧ RepOL T ad H mu nu vs ds gp ∧ (∀ x, x ∈ gp → x ∈ fp) ∧ (fp.Nodup → gp.Nodup) := by
  cases d with
  | ref n =>
    obtain ⟨a, rfl, rfl, ha⟩ := ro.ref
    cases st.cel n a _ ha h with
    | lst e r => exact ⟨_, _, [], rfl, .inl e, Rep.ofL _ r, fun _ z => z, fun z => z⟩
  | lst o' xs =>
    cases h
    exact ro.lst_
  | _ => cases h
theorem look_tup (st : Sta T ad b H mu nu s e S) (ro : RepO T ad H mu nu v d fp) (h : look S d = some (.tup ds)) :
    ∃ a vs, v = .ref a ∧ ¬ nu a ∧ TpH H a vs ∧ RepOL T ad H mu nu vs ds fp := by
  cases d with
  | ref n =>
    obtain ⟨a, rfl, rfl, ha⟩ := ro.ref
    cases st.cel n a _ ha h
  | tup xs =>
    cases h
    exact ro.tup_
  | _ => cases h
theorem RepOL.length : ∀ {vs : List V} {ds : List D} {fp : List Addr}, RepOL T ad H mu nu vs ds fp → vs.length = ds.length
  | _, _, _, .nil => rfl
  | _, _, _, .cons _ t => congrArg Nat.succ t.length
theorem RepL.length : ∀ {vs : List V} {ds : List D}, RepL T ad H mu nu vs ds → vs.length = ds.length
  | _, _, .nil => rfl
  | _, _, .cons _ t => congrArg Nat.succ t.length
theorem RepOL.app : ∀ {vs ws : List V} {ds es : List D} {fp gp : List Addr}, RepOL T ad H mu nu vs ds fp → RepOL T ad H mu nu ws es gp → RepOL T ad H mu nu (vs ++ ws) (ds ++ es) (fp ++ gp)
  | _, _, _, _, _, _, .nil, h => h
  | _, _, _, _, _, _, .cons (fp := f) (gp := g) h1 h2, h => by
    rw [List.append_assoc]
    exact .cons h1 (h2.app h)
/-- all that is held alone is tracked -/
theorem own_trk (st : Sta T ad b H mu nu s e S) (o : Own nu fp) : ∀ a, a ∈ fp → ∃ o, H a = some o := fun a h => st.trk a (o.2 a h)
theorem Own.sub {gp : List Addr} (o : Own nu fp) (h : ∀ x, x ∈ gp → x ∈ fp) (n : fp.Nodup → gp.Nodup) : Own nu gp := ⟨n o.1, fun a m => o.2 a (h a m)⟩

/-! ### ends -/
theorem Pst.fin {Q : VK} (p : Pst T ad b W s e (.ok d S) H mu nu f0 Q) (st : Sta T ad b H mu nu s e S) (ro : RepO T ad H mu nu v d fp) (ow : Own nu fp) (fr : ∀ a, a ∈ fp → a ∈ f0) : Q v H :=
  p v H mu nu fp .refl st ro ow fun a h => .inl (fr a h)
theorem Pst.val {Q : VK} (p : Pst T ad b W s e (.ok d S) H mu nu f0 Q) (st : Sta T ad b H mu nu s e S) (r : Rep T ad H mu nu v d) : Q v H := p.fin st (.of r) .nil fun _ h => absurd h List.not_mem_nil

/-! ### a new object -/
theorem new_kpO {q : Addr} {o : HO} (hq : H q = none) (nu' : Addr → Prop) (h : ∀ a, nu' a → nu a ∨ a = q) : KpO H mu nu (upd H q o) mu nu' where
  at_ := fun a u ha n => ⟨by rw [upd_ne (ne_of_none ha hq)]; exact ha, fun z => (h a z).elim n (ne_of_none ha hq)⟩
  ref := fun _ _ z => z
  own := fun a u ha n => ⟨by rw [upd_ne (ne_of_none ha hq)]; exact ha, n⟩
theorem new_stp {q : Addr} {o : HO} (hq : H q = none) (nu' : Addr → Prop) (h : ∀ a, nu' a → nu a ∨ a = q) (g : ∀ a, nu a → nu' a) : Stp H mu nu (upd H q o) mu nu' where
  keep := fun a u ha n => ⟨by rw [upd_ne (ne_of_none ha hq)]; exact ha, n, fun z => (h a z).elim id fun e => absurd e (ne_of_none ha hq)⟩
  pre := ⟨[], by simp⟩
  grow := g
  trk := fun a u ha => ⟨u, by rw [upd_ne (ne_of_none ha hq)]; exact ha⟩
  new := fun a h => .inl h
theorem Sta.move (st : Sta T ad b H mu nu s e S) (k : Kp H mu nu H1 mu nu1) (hc : ∀ a, a ∈ mu → H1 a = H a) (sub : ∀ a, a ∈ mu → nu1 a) (trk : ∀ a, nu1 a → ∃ o, H1 a = some o) : Sta T ad b H1 mu nu1 s e S where
  len := st.len
  env := fun i d h => by
    obtain ⟨v, h1, r⟩ := st.env i d h
    exact ⟨v, h1, r.keeps k⟩
  num := st.num
  cel := fun n a c h1 h2 => by
    have e1 := hc a (List.mem_of_getElem? h1)
    cases st.cel n a c h1 h2 with
    | lst q r => exact .lst (e1.trans q) (r.keeps k)
    | dic q r => exact .dic (e1.trans q) (r.keeps k)
    | ins hI q l r => exact .ins hI (e1.trans q) l (r.keeps k)
  nd := st.nd
  sub := sub
  trk := trk
  old := st.old
  bse := st.bse
theorem Sta.tracked (st : Sta T ad b H mu nu s e S) {a : Addr} (h : a ∈ mu) : ∃ o, H a = some o := st.trk a (st.sub a h)
theorem Sta.made {q : Addr} {o : HO} (st : Sta T ad b H mu nu s e S) (hq : H q = none) (nu' : Addr → Prop) (h : ∀ a, nu' a → nu a ∨ a = q) (g : ∀ a, nu a → nu' a) : Sta T ad b (upd H q o) mu nu' s e S := by
  refine st.move (new_kpO hq nu' h).toKp (fun a m => ?_) (fun a m => g a (st.sub a m)) (fun a z => ?_)
  · obtain ⟨u, hu⟩ := st.tracked m
    exact upd_ne (ne_of_none hu hq)
  · by_cases e : a = q
    · subst e
      exact ⟨o, upd_same⟩
    · obtain ⟨u, hu⟩ := st.trk a ((h a z).resolve_right e)
      exact ⟨u, by rw [upd_ne e]; exact hu⟩
/-- a new tuple -/
theorem Pst.tup {Q : VK} {q : Addr} (p : Pst T ad b W s e (.ok (.tup ds) S) H mu nu f0 Q) (st : Sta T ad b H mu nu s e S) (ro : RepOL T ad H mu nu vs ds fp) (ow : Own nu fp) (fr : ∀ a, a ∈ fp → a ∈ f0) (hq : H q = none) {o : Obj} (ho : o.dict = none) : Q (.ref q) (upd H q (.frz o (.tup vs))) := by
  have nq : ¬ nu q := fun z => by
    obtain ⟨o, h⟩ := st.trk q z
    rw [hq] at h
    cases h
  have k : KpO H mu nu (upd H q (.frz o (.tup vs))) mu nu := new_kpO hq nu fun a z => .inl z
  exact p _ _ mu nu fp (new_stp hq nu (fun a z => .inl z) fun a z => z) (st.made hq nu (fun a z => .inl z) fun a z => z) (.tup nq ⟨o, ho, upd_same⟩ (ro.keeps k)) ow fun a h => .inl (fr a h)
/-- a new list -/
theorem Pst.lst {Q : VK} {q : Addr} (p : Pst T ad b W s e (.ok (.lst true ds) S) H mu nu f0 Q) (st : Sta T ad b H mu nu s e S) (ro : RepOL T ad H mu nu vs ds fp) (ow : Own nu fp) (fr : ∀ a, a ∈ fp → a ∈ f0) (hq : H q = none) : Q (.ref q) (upd H q (.lst vs)) := by
  have nm : q ∉ mu := fun z => by
    obtain ⟨o, h⟩ := st.tracked z
    rw [hq] at h
    cases h
  have nf : q ∉ fp := fun z => by
    obtain ⟨o, h⟩ := st.trk q (ow.2 q z)
    rw [hq] at h
    cases h
  have h1 : ∀ a, (nu a ∨ a = q) → nu a ∨ a = q := fun a z => z
  have k : KpO H mu nu (upd H q (.lst vs)) mu (fun a => nu a ∨ a = q) := new_kpO hq _ h1
  refine p _ _ mu (fun a => nu a ∨ a = q) (q :: fp) (new_stp hq _ h1 fun a z => .inl z) (st.made hq _ h1 fun a z => .inl z) (.lst nm upd_same (ro.keeps k)) ⟨List.nodup_cons.mpr ⟨nf, ow.1⟩, fun a h => ?_⟩ fun a h => ?_
  · rcases List.mem_cons.mp h with e | h
    · exact .inr e
    · exact .inl (ow.2 a h)
  · rcases List.mem_cons.mp h with e | h
    · exact .inr (by rw [e]; exact hq)
    · exact .inl (fr a h)
end

/-! ### names, constants, displays -/
section
variable {T : Pg} {ad : Ad} {b : List Nat} {W : WX} {X : Cx}
theorem var_ok {i : Nat} {C : List Nat → Nat → List D → Sto → R D} (hx : ∀ p, ad.xa = some p → p.2.2.2 ≠ i) : ∀ s H Q, tE T ad b W (ev T C b (.var i)) s H Q → tVar i s H Q := fun s H Q h => by
  obtain ⟨mu, nu, e, S, st, p⟩ := h
  rw [ev] at p
  split at p
  · rename_i d he
    obtain ⟨v, h1, r⟩ := st.env i d he
    cases r with
    | of r => exact ⟨v, h1, p.val st r⟩
    | exc ha => exact absurd rfl (hx _ ha)
  · exact p.elim
theorem cst_ok {d : D} {v : V} {C : List Nat → Nat → List D → Sto → R D} (r : ∀ H mu nu, Rep T ad H mu nu v d) : ∀ s H Q, tE T ad b W (ev T C b (.cst d)) s H Q → tC v s H Q := fun s H Q h => by
  obtain ⟨mu, nu, e, S, st, p⟩ := h
  rw [ev] at p
  exact p.val st (r _ _ _)
/-- a tuple of written items, its object plain -/
def tTupZ (t : TA) : TE := fun σ H Q => t σ H fun xs H1 => xs.length ≤ sizeLine ∧ ∀ p (o : Obj), H1 p = none → o.dict = none → Q (.ref p) (upd H1 p (.frz o (.tup xs)))
theorem pe_tupZ {es : List Expr} {t : TA} {pos : Pos} {x1} (h : PA X es t) : PE X (.Tuple es x1 pos) (tTupZ t) := by
  refine ⟨fun pins s σ H Q I hq => ?_⟩
  refine wpAny_Tuple_spliced (thn (h.run pos pins s σ H _ I hq) fun us s1 ⟨xs, H1, I1, r, z, q⟩ => ⟨by rw [← r.length]; exact z, ?_⟩)
  have hf : H1 s1.heap.objs.size = none := I1.hok.fresh (Nat.le_refl _)
  have hg := Heap.get?_push_size s1.heap (o := { cls := .type "tuple", data := .seq us.toArray }) rfl
  refine ⟨.ref s1.heap.objs.size, upd H1 s1.heap.objs.size (.frz { cls := .type "tuple", data := .seq us.toArray } (.tup xs)), I1.laid (t' := s1.toks) (fun b u e => Heap.get?_push_of_some _ e) (Nat.le_refl _) ?_, rfl, q _ _ hf rfl⟩
  exact ⟨hg, z, us, r, ⟨_, hg, rfl, _, rfl⟩⟩
theorem tup_ok {es : List E} {C : List Nat → Nat → List D → Sto → R D} : ∀ s H Q, tE T ad b W (ev T C b (.tup es)) s H Q → tTupZ (tA T ad b W (evs T C b es)) s H Q := fun s H Q h => by
  obtain ⟨mu, nu, e, S, st, p⟩ := h
  rw [ev] at p
  refine tA_bind st p fun vs ds S1 H1 mu1 nu1 fp x st1 ro ow fr p1 => ?_
  split at p1
  · rename_i hl
    exact ⟨by rw [ro.length]; exact hl, fun q o hq ho => p1.tup st1 ro ow (fun a h => h) hq ho⟩
  · exact p1.elim
theorem lst_ok {es : List E} {C : List Nat → Nat → List D → Sto → R D} : ∀ s H Q, tE T ad b W (ev T C b (.lst es)) s H Q → tLst (tA T ad b W (evs T C b es)) s H Q := fun s H Q h => by
  obtain ⟨mu, nu, e, S, st, p⟩ := h
  rw [ev] at p
  refine tA_bind st p fun vs ds S1 H1 mu1 nu1 fp x st1 ro ow fr p1 => ?_
  split at p1
  · rename_i hl
    exact ⟨by rw [ro.length]; exact hl, fun q hq => p1.lst st1 ro ow (fun a h => h) hq⟩
  · exact p1.elim
end
end Dl
end

section
set_option Elab.async false
set_option linter.all false
set_option maxRecDepth 100000
/-! D6: one part after another; argument lists. -/
namespace Dl
open PySem PySem.Spec PyProof.Rows L2
section
variable {T : Pg} {ad : Ad} {b : List Nat} {W : WX} {s : L2.St} {e : Env} {H : Hp} {mu : List Addr} {nu : Addr → Prop}
theorem tE_bindL {r : Env → Sto → R D} {f : D → Sto → R (List D)} {Q : List V → Hp → Prop} {S : Sto} {K : VK} (st : Sta T ad b H mu nu s e S) (p : PstL T ad b W s e ((r e S).bind f) H mu nu [] Q)
    (k : ∀ v d S1 H1 mu1 nu1 fp, Stp H mu nu H1 mu1 nu1 → Sta T ad b H1 mu1 nu1 s e S1 → RepO T ad H1 mu1 nu1 v d fp → Own nu1 fp → (∀ a, a ∈ fp → H a = none) → PstL T ad b W s e (f d S1) H1 mu1 nu1 fp Q → K v H1) :
    tE T ad b W r s H K := by
  refine ⟨mu, nu, e, S, st, ?_⟩
  cases h : r e S with
  | ok d S1 =>
    rw [h] at p
    intro v H1 mu1 nu1 fp x st1 ro ow fr
    have fr' : ∀ a, a ∈ fp → H a = none := fun a h => (fr a h).elim (fun z => absurd z List.not_mem_nil) id
    exact k v d S1 H1 mu1 nu1 fp x st1 ro ow fr' (PstL.step x (fun a h => .inr (fr' a h)) p)
  | ex c xs S1 =>
    rw [h] at p
    exact p
  | er =>
    rw [h] at p
    exact p.elim
theorem tE_bindB {r : Env → Sto → R D} {f : D → Sto → R Bool} {Q : Bool → Hp → Prop} {S : Sto} {K : VK} (st : Sta T ad b H mu nu s e S) (p : PstB T ad b W s e ((r e S).bind f) H mu nu Q)
    (k : ∀ v d S1 H1 mu1 nu1 fp, Stp H mu nu H1 mu1 nu1 → Sta T ad b H1 mu1 nu1 s e S1 → RepO T ad H1 mu1 nu1 v d fp → Own nu1 fp → (∀ a, a ∈ fp → H a = none) → PstB T ad b W s e (f d S1) H1 mu1 nu1 Q → K v H1) :
    tE T ad b W r s H K := by
  refine ⟨mu, nu, e, S, st, ?_⟩
  cases h : r e S with
  | ok d S1 =>
    rw [h] at p
    intro v H1 mu1 nu1 fp x st1 ro ow fr
    have fr' : ∀ a, a ∈ fp → H a = none := fun a h => (fr a h).elim (fun z => absurd z List.not_mem_nil) id
    exact k v d S1 H1 mu1 nu1 fp x st1 ro ow fr' (PstB.step x p)
  | ex c xs S1 =>
    rw [h] at p
    exact p
  | er =>
    rw [h] at p
    exact p.elim
theorem tA_bindL {r : Env → Sto → R (List D)} {f : List D → Sto → R (List D)} {Q : List V → Hp → Prop} {S : Sto} {K : List V → Hp → Prop} (st : Sta T ad b H mu nu s e S) (p : PstL T ad b W s e ((r e S).bind f) H mu nu [] Q)
    (k : ∀ vs ds S1 H1 mu1 nu1 fp, Stp H mu nu H1 mu1 nu1 → Sta T ad b H1 mu1 nu1 s e S1 → RepOL T ad H1 mu1 nu1 vs ds fp → Own nu1 fp → (∀ a, a ∈ fp → H a = none) → PstL T ad b W s e (f ds S1) H1 mu1 nu1 fp Q → K vs H1) :
    tA T ad b W r s H K := by
  refine ⟨mu, nu, e, S, st, ?_⟩
  cases h : r e S with
  | ok d S1 =>
    rw [h] at p
    intro v H1 mu1 nu1 fp x st1 ro ow fr
    have fr' : ∀ a, a ∈ fp → H a = none := fun a h => (fr a h).elim (fun z => absurd z List.not_mem_nil) id
    exact k v d S1 H1 mu1 nu1 fp x st1 ro ow fr' (PstL.step x (fun a h => .inr (fr' a h)) p)
  | ex c xs S1 =>
    rw [h] at p
    exact p
  | er =>
    rw [h] at p
    exact p.elim
theorem tA_bindB {r : Env → Sto → R (List D)} {f : List D → Sto → R Bool} {Q : Bool → Hp → Prop} {S : Sto} {K : List V → Hp → Prop} (st : Sta T ad b H mu nu s e S) (p : PstB T ad b W s e ((r e S).bind f) H mu nu Q)
    (k : ∀ vs ds S1 H1 mu1 nu1 fp, Stp H mu nu H1 mu1 nu1 → Sta T ad b H1 mu1 nu1 s e S1 → RepOL T ad H1 mu1 nu1 vs ds fp → Own nu1 fp → (∀ a, a ∈ fp → H a = none) → PstB T ad b W s e (f ds S1) H1 mu1 nu1 Q → K vs H1) :
    tA T ad b W r s H K := by
  refine ⟨mu, nu, e, S, st, ?_⟩
  cases h : r e S with
  | ok d S1 =>
    rw [h] at p
    intro v H1 mu1 nu1 fp x st1 ro ow fr
    have fr' : ∀ a, a ∈ fp → H a = none := fun a h => (fr a h).elim (fun z => absurd z List.not_mem_nil) id
    exact k v d S1 H1 mu1 nu1 fp x st1 ro ow fr' (PstB.step x p)
  | ex c xs S1 =>
    rw [h] at p
    exact p
  | er =>
    rw [h] at p
    exact p.elim
theorem tQ_bind {r : Env → Sto → R Bool} {f : Bool → Sto → R D} {Q : VK} {S : Sto} {K : Bool → Hp → Prop} (st : Sta T ad b H mu nu s e S) (p : Pst T ad b W s e ((r e S).bind f) H mu nu [] Q)
    (k : ∀ c S1 H1 mu1 nu1, Stp H mu nu H1 mu1 nu1 → Sta T ad b H1 mu1 nu1 s e S1 → Pst T ad b W s e (f c S1) H1 mu1 nu1 [] Q → K c H1) :
    tQ T ad b W r s H K := by
  refine ⟨mu, nu, e, S, st, ?_⟩
  cases h : r e S with
  | ok c S1 =>
    rw [h] at p
    exact fun H1 mu1 nu1 x st1 => k c S1 H1 mu1 nu1 x st1 (Pst.step x (fun a h => absurd h List.not_mem_nil) p)
  | ex c xs S1 =>
    rw [h] at p
    exact p
  | er =>
    rw [h] at p
    exact p.elim
theorem tQ_bindL {r : Env → Sto → R Bool} {f : Bool → Sto → R (List D)} {Q : List V → Hp → Prop} {S : Sto} {K : Bool → Hp → Prop} (st : Sta T ad b H mu nu s e S) (p : PstL T ad b W s e ((r e S).bind f) H mu nu [] Q)
    (k : ∀ c S1 H1 mu1 nu1, Stp H mu nu H1 mu1 nu1 → Sta T ad b H1 mu1 nu1 s e S1 → PstL T ad b W s e (f c S1) H1 mu1 nu1 [] Q → K c H1) :
    tQ T ad b W r s H K := by
  refine ⟨mu, nu, e, S, st, ?_⟩
  cases h : r e S with
  | ok c S1 =>
    rw [h] at p
    exact fun H1 mu1 nu1 x st1 => k c S1 H1 mu1 nu1 x st1 (PstL.step x (fun a h => absurd h List.not_mem_nil) p)
  | ex c xs S1 =>
    rw [h] at p
    exact p
  | er =>
    rw [h] at p
    exact p.elim
theorem tQ_bindB {r : Env → Sto → R Bool} {f : Bool → Sto → R Bool} {Q : Bool → Hp → Prop} {S : Sto} {K : Bool → Hp → Prop} (st : Sta T ad b H mu nu s e S) (p : PstB T ad b W s e ((r e S).bind f) H mu nu Q)
    (k : ∀ c S1 H1 mu1 nu1, Stp H mu nu H1 mu1 nu1 → Sta T ad b H1 mu1 nu1 s e S1 → PstB T ad b W s e (f c S1) H1 mu1 nu1 Q → K c H1) :
    tQ T ad b W r s H K := by
  refine ⟨mu, nu, e, S, st, ?_⟩
  cases h : r e S with
  | ok c S1 =>
    rw [h] at p
    exact fun H1 mu1 nu1 x st1 => k c S1 H1 mu1 nu1 x st1 (PstB.step x p)
  | ex c xs S1 =>
    rw [h] at p
    exact p
  | er =>
    rw [h] at p
    exact p.elim
theorem tE_bind0 {r : Env → Sto → R D} {f : D → Sto → R D} {Q : VK} {S : Sto} {K : VK} (st : Sta T ad b H mu nu s e S) (p : Pst T ad b W s e ((r e S).bind f) H mu nu [] Q)
    (k : ∀ v d S1 H1 mu1 nu1 fp, Stp H mu nu H1 mu1 nu1 → Sta T ad b H1 mu1 nu1 s e S1 → RepO T ad H1 mu1 nu1 v d fp → Own nu1 fp → (∀ a, a ∈ fp → H a = none) → Pst T ad b W s e (f d S1) H mu nu [] Q → K v H1) :
    tE T ad b W r s H K := by
  refine ⟨mu, nu, e, S, st, ?_⟩
  cases h : r e S with
  | ok d S1 =>
    rw [h] at p
    intro v H1 mu1 nu1 fp x st1 ro ow fr
    exact k v d S1 H1 mu1 nu1 fp x st1 ro ow (fun a h => (fr a h).elim (fun z => absurd z List.not_mem_nil) id) p
  | ex c xs S1 =>
    rw [h] at p
    exact p
  | er =>
    rw [h] at p
    exact p.elim
theorem tA_bind0 {r : Env → Sto → R (List D)} {f : List D → Sto → R D} {Q : VK} {S : Sto} {K : List V → Hp → Prop} (st : Sta T ad b H mu nu s e S) (p : Pst T ad b W s e ((r e S).bind f) H mu nu [] Q)
    (k : ∀ vs ds S1 H1 mu1 nu1 fp, Stp H mu nu H1 mu1 nu1 → Sta T ad b H1 mu1 nu1 s e S1 → RepOL T ad H1 mu1 nu1 vs ds fp → Own nu1 fp → (∀ a, a ∈ fp → H a = none) → Pst T ad b W s e (f ds S1) H mu nu [] Q → K vs H1) :
    tA T ad b W r s H K := by
  refine ⟨mu, nu, e, S, st, ?_⟩
  cases h : r e S with
  | ok d S1 =>
    rw [h] at p
    intro v H1 mu1 nu1 fp x st1 ro ow fr
    exact k v d S1 H1 mu1 nu1 fp x st1 ro ow (fun a h => (fr a h).elim (fun z => absurd z List.not_mem_nil) id) p
  | ex c xs S1 =>
    rw [h] at p
    exact p
  | er =>
    rw [h] at p
    exact p.elim
theorem tE_bindS {r : Env → Sto → R D} {f : D → Sto → RS} {D' : Ends} {S : Sto} {K : VK} (st : Sta T ad b H mu nu s e S) (p : Sst T ad b W (RS.of (r e S) e f) H mu nu D')
    (k : ∀ v d S1 H1 mu1 nu1 fp, Stp H mu nu H1 mu1 nu1 → Sta T ad b H1 mu1 nu1 s e S1 → RepO T ad H1 mu1 nu1 v d fp → Own nu1 fp → (∀ a, a ∈ fp → H a = none) → Sst T ad b W (f d S1) H mu nu D' → K v H1) :
    tE T ad b W r s H K := by
  refine ⟨mu, nu, e, S, st, ?_⟩
  cases h : r e S with
  | ok d S1 =>
    rw [h] at p
    intro v H1 mu1 nu1 fp x st1 ro ow fr
    exact k v d S1 H1 mu1 nu1 fp x st1 ro ow (fun a h => (fr a h).elim (fun z => absurd z List.not_mem_nil) id) p
  | ex c xs S1 =>
    rw [h] at p
    exact fun H' mu' nu' dx Vs x' st' rl nx hx => p s H' mu' nu' dx Vs x' st' rl nx hx
  | er =>
    rw [h] at p
    exact p.elim
theorem tA_bindS {r : Env → Sto → R (List D)} {f : List D → Sto → RS} {D' : Ends} {S : Sto} {K : List V → Hp → Prop} (st : Sta T ad b H mu nu s e S) (p : Sst T ad b W (RS.of (r e S) e f) H mu nu D')
    (k : ∀ vs ds S1 H1 mu1 nu1 fp, Stp H mu nu H1 mu1 nu1 → Sta T ad b H1 mu1 nu1 s e S1 → RepOL T ad H1 mu1 nu1 vs ds fp → Own nu1 fp → (∀ a, a ∈ fp → H a = none) → Sst T ad b W (f ds S1) H mu nu D' → K vs H1) :
    tA T ad b W r s H K := by
  refine ⟨mu, nu, e, S, st, ?_⟩
  cases h : r e S with
  | ok d S1 =>
    rw [h] at p
    intro v H1 mu1 nu1 fp x st1 ro ow fr
    exact k v d S1 H1 mu1 nu1 fp x st1 ro ow (fun a h => (fr a h).elim (fun z => absurd z List.not_mem_nil) id) p
  | ex c xs S1 =>
    rw [h] at p
    exact fun H' mu' nu' dx Vs x' st' rl nx hx => p s H' mu' nu' dx Vs x' st' rl nx hx
  | er =>
    rw [h] at p
    exact p.elim
theorem tQ_bindS {r : Env → Sto → R Bool} {f : Bool → Sto → RS} {D' : Ends} {S : Sto} {K : Bool → Hp → Prop} (st : Sta T ad b H mu nu s e S) (p : Sst T ad b W (RS.of (r e S) e f) H mu nu D')
    (k : ∀ c S1 H1 mu1 nu1, Stp H mu nu H1 mu1 nu1 → Sta T ad b H1 mu1 nu1 s e S1 → Sst T ad b W (f c S1) H mu nu D' → K c H1) :
    tQ T ad b W r s H K := by
  refine ⟨mu, nu, e, S, st, ?_⟩
  cases h : r e S with
  | ok c S1 =>
    rw [h] at p
    exact fun H1 mu1 nu1 x st1 => k c S1 H1 mu1 nu1 x st1 p
  | ex c xs S1 =>
    rw [h] at p
    exact fun H' mu' nu' dx Vs x' st' rl nx hx => p s H' mu' nu' dx Vs x' st' rl nx hx
  | er =>
    rw [h] at p
    exact p.elim
end
section
variable {T : Pg} {ad : Ad} {b : List Nat} {W : WX} {X : Cx} {s : L2.St} {e : Env} {S : Sto} {H H1 : Hp} {mu mu1 : List Addr} {nu nu1 : Addr → Prop} {fp : List Addr} {v : V} {d : D}
/-- the items of a list or a tuple -/
theorem kids_ok {K : PySem.W.Frag} {xs : List D} (st : Sta T ad b H mu nu s e S) (ro : RepO T ad H mu nu v d fp) (h : kids S d = some xs) :
    ∃ vs gp c, Seq K H v vs c ∧ RepOL T ad H mu nu vs xs gp ∧ (∀ x, x ∈ gp → x ∈ fp) ∧ (fp.Nodup → gp.Nodup) := by
  unfold kids at h
  split at h
  · rename_i o ys hl
    cases h
    obtain ⟨a, vs, gp, rfl, r, q, h1, h2⟩ := look_lst (K := K) st ro hl
    exact ⟨vs, gp, true, .lst r, q, h1, h2⟩
  · rename_i ys hl
    cases h
    obtain ⟨a, vs, rfl, n, r, q⟩ := look_tup st ro hl
    exact ⟨vs, fp, false, .tup r, q, fun _ z => z, fun z => z⟩
  · cases h
theorem Seq.sqL {K : PySem.W.Frag} {a : Addr} {vs : List V} (h : Rd H a (.lst vs)) : SqL K H a vs := .inl h
/-- a star -/
def tStar (K : PySem.W.Frag) (te : TE) (t : TA) : TA := fun s H Q => te s H fun x H1 => ∃ xs c, Seq K H1 x xs c ∧ t s H1 fun ys H2 => Q (xs ++ ys) H2
theorem pa_star {e : Expr} {p : Pos} {es : List Expr} {te : TE} {t : TA} (he : PE X e te) (ht : PA X es t) : PA X (.Starred e p :: es) (tStar X.K te t) := by
  refine ⟨fun pos pins s σ H Q I h => ?_⟩
  refine PySem.W.items_star (thn (he.run pins s σ H _ I h) fun u s1 ⟨x, H1, I1, r1, xs, c, sq, q1⟩ => ?_)
  have go : ∀ (a : Addr) (ty : String) (o : Obj) (its : List Value) (n : Nat), u = .ref a → (ty = "list" ∨ ty = "tuple") → s1.heap.get? a = some o → o.cls = .type ty → o.data = .seq its.toArray n → its.length ≤ sizeLine → Vals xs its →
      PySem.W.StarOf (model X.prog X.w) X.A X.xe u (fun here s₂ => wpAny (model X.prog X.w) X.A (spliced (backTo pos (starEach es X.env))) (fun vs s₃ => AP X pins σ Q (here ++ vs) s₃) X.xe s₂) s1 := by
    intro a ty o its n hu hty ho hc hd hz rv
    subst hu
    have z : wpAny (model X.prog X.w) X.A (collect (.ref a)) (fun here s₂ => wpAny (model X.prog X.w) X.A (spliced (backTo pos (starEach es X.env))) (fun vs s₃ => AP X pins σ Q (here ++ vs) s₃) X.xe s₂) X.xe s1 := by
      refine PySem.wpAny_collect_seq a hty ho hc hd (fun h' hk => ?_) (by rw [List.size_toArray]; exact hz)
      have I2 : Inv X pins σ H1 { s1 with heap := h' } := I1.kept (t' := s1.toks) hk
      exact thn (ht.run pos pins _ σ H1 _ I2 q1) fun vs s3 ⟨ys, H2, I3, r3, q3⟩ => ⟨xs ++ ys, H2, I3, rv.append r3, q3⟩
    unfold PySem.W.StarOf notIterableAtAll
    have hT : s1.TypeIs (.ref a) ty := ⟨o, ho, hc⟩
    rcases hty with e | e
    · subst e
      exact wpAny_bind (wpAny_specialOf hT PySem.F.slot_list_iter.lookup (wpAny_pure ⟨rfl, z⟩))
    · subst e
      exact wpAny_bind (wpAny_specialOf hT PySem.F.slot_tuple_iter.lookup (wpAny_pure ⟨rfl, z⟩))
  cases sq with
  | @lst a vs hr =>
    obtain ⟨its, rv, ⟨o, n, ho, hc, _, hd⟩, hz⟩ := I1.list (.inl hr)
    exact go a "list" o its n r1 (.inl rfl) ho hc hd (by rw [← rv.length]; exact hz) rv
  | @tup a vs hr =>
    obtain ⟨its, rv, ⟨o, ho, hc, n, hd⟩, hz⟩ := I1.tuple hr.sq
    exact go a "tuple" o its n r1 (.inr rfl) ho hc hd (by rw [← rv.length]; exact hz) rv
end
section
variable {T : Pg} {ad : Ad} {b : List Nat} {W : WX} {X : Cx} {C : List Nat → Nat → List D → Sto → R D}
theorem nil_ok : ∀ s H Q, tA T ad b W (evs T C b []) s H Q → tNil s H Q := fun s H Q h => by
  obtain ⟨mu, nu, e, S, st, p⟩ := h
  rw [evs] at p
  exact p [] H mu nu [] .refl st .nil .nil fun a h => absurd h List.not_mem_nil
/-- two values -/
theorem two_ok {rx ry : Env → Sto → R D} {g : D → D → Sto → R D} {K2 : V → V → Hp → Prop} {s : L2.St} {e : Env} {S : Sto} {H : Hp} {mu : List Addr} {nu : Addr → Prop} {Q : VK} (st : Sta T ad b H mu nu s e S)
    (p : Pst T ad b W s e ((rx e S).bind fun x S => (ry e S).bind fun y S => g x y S) H mu nu [] Q)
    (k : ∀ v1 d1 f1 v2 d2 f2 S2 H2 mu2 nu2, Stp H mu nu H2 mu2 nu2 → Sta T ad b H2 mu2 nu2 s e S2 → RepO T ad H2 mu2 nu2 v1 d1 f1 → RepO T ad H2 mu2 nu2 v2 d2 f2 → Own nu2 (f1 ++ f2) → Pst T ad b W s e (g d1 d2 S2) H2 mu2 nu2 (f1 ++ f2) Q → K2 v1 v2 H2) :
    tE T ad b W rx s H fun v1 H1 => tE T ad b W ry s H1 fun v2 H2 => K2 v1 v2 H2 := by
  refine tE_bind st p fun v1 d1 S1 H1 mu1 nu1 f1 x1 st1 ro1 ow1 fr1 p1 => ?_
  refine ⟨mu1, nu1, e, S1, st1, ?_⟩
  cases h : ry e S1 with
  | ok d2 S2 =>
    rw [h] at p1
    intro v2 H2 mu2 nu2 f2 x2 st2 ro2 ow2 fr2
    have fr2' : ∀ a, a ∈ f2 → H1 a = none := fun a h => (fr2 a h).elim (fun z => absurd z List.not_mem_nil) id
    refine k v1 d1 f1 v2 d2 f2 S2 H2 mu2 nu2 (x1.trans x2) st2 (ro1.keeps (x2.keepsO st1.sub)) ro2 (Own.app st1.sub x2 ow1 ow2 fr2' (own_trk st1 ow1)) (Pst.step x2 (fun a h => ?_) p1)
    rcases List.mem_append.mp h with h | h
    · exact .inl h
    · exact .inr (fr2' a h)
  | ex c xs S2 =>
    rw [h] at p1
    exact p1
  | er =>
    rw [h] at p1
    exact p1.elim
/-- one value, then the rest -/
theorem join_ok {vs : List V} {xs : List D} {s : L2.St} {e : Env} {H H1 : Hp} {mu mu1 : List Addr} {nu nu1 : Addr → Prop} {fp gp : List Addr} {S S1 : Sto} {Q : List V → Hp → Prop} {ws : List V} {ys : List D}
    (st : Sta T ad b H mu nu s e S) (ro : RepOL T ad H mu nu vs xs fp) (ow : Own nu fp) (x1 : Stp H mu nu H1 mu1 nu1) (st1 : Sta T ad b H1 mu1 nu1 s e S1) (ro1 : RepOL T ad H1 mu1 nu1 ws ys gp) (ow1 : Own nu1 gp) (fr1 : ∀ a, a ∈ gp → H a = none)
    (p : PstL T ad b W s e (.ok (xs ++ ys) S1) H1 mu1 nu1 (fp ++ gp) Q) : Q (vs ++ ws) H1 := by
  have r2 : RepOL T ad H1 mu1 nu1 vs xs fp := ro.keeps (x1.keepsO st.sub)
  exact p _ H1 mu1 nu1 (fp ++ gp) .refl st1 (r2.app ro1) (Own.app st.sub x1 ow ow1 fr1 (own_trk st ow)) fun a h => .inl h
theorem cons_ok {e1 : E} {es : List E} (h0 : ∀ x, e1 ≠ .star x) : ∀ s H Q, tA T ad b W (evs T C b (e1 :: es)) s H Q → tCons (tE T ad b W (ev T C b e1)) (tA T ad b W (evs T C b es)) s H Q := fun s H Q h => by
  obtain ⟨mu, nu, e, S, st, p⟩ := h
  have eq : evs T C b (e1 :: es) e S = (ev T C b e1 e S).bind fun x S => (evs T C b es e S).bind fun ys S => .ok (x :: ys) S := by
    cases e1 <;> first | rfl | exact absurd rfl (h0 _)
  rw [eq] at p
  refine tE_bindL st p fun v d S1 H1 mu1 nu1 fp x st1 ro ow fr p1 => ?_
  refine ⟨mu1, nu1, e, S1, st1, ?_⟩
  cases h : evs T C b es e S1 with
  | ok ys S2 =>
    rw [h] at p1
    intro ws H2 mu2 nu2 gp x2 st2 ro2 ow2 fr2
    have fr2' : ∀ a, a ∈ gp → H1 a = none := fun a h => (fr2 a h).elim (fun z => absurd z List.not_mem_nil) id
    have r1 : RepOL T ad H1 mu1 nu1 [v] [d] (fp ++ []) := .cons ro .nil
    rw [List.append_nil] at r1
    refine join_ok (xs := [d]) (vs := [v]) st1 r1 ow x2 st2 ro2 ow2 fr2' (PstL.step x2 (fun a h => ?_) p1)
    rcases List.mem_append.mp h with h | h
    · exact .inl h
    · exact .inr (fr2' a h)
  | ex c xs S2 =>
    rw [h] at p1
    exact p1
  | er =>
    rw [h] at p1
    exact p1.elim
theorem star_ok {K : PySem.W.Frag} {e1 : E} {es : List E} : ∀ s H Q, tA T ad b W (evs T C b (.star e1 :: es)) s H Q → tStar K (tE T ad b W (ev T C b e1)) (tA T ad b W (evs T C b es)) s H Q := fun s H Q h => by
  obtain ⟨mu, nu, e, S, st, p⟩ := h
  rw [evs] at p
  refine tE_bindL st p fun v d S1 H1 mu1 nu1 fp x st1 ro ow fr p1 => ?_
  split at p1
  · rename_i xs hk
    obtain ⟨vs, gp0, c, sq, rk, g1, g2⟩ := kids_ok (K := K) st1 ro hk
    have ow0 := ow.sub g1 g2
    refine ⟨vs, c, sq, mu1, nu1, e, S1, st1, ?_⟩
    cases h : evs T C b es e S1 with
    | ok ys S2 =>
      rw [h] at p1
      intro ws H2 mu2 nu2 gp x2 st2 ro2 ow2 fr2
      have fr2' : ∀ a, a ∈ gp → H1 a = none := fun a h => (fr2 a h).elim (fun z => absurd z List.not_mem_nil) id
      refine join_ok st1 rk ow0 x2 st2 ro2 ow2 fr2' (PstL.step x2 (fun a h => ?_) p1)
      rcases List.mem_append.mp h with h | h
      · exact .inl (g1 a h)
      · exact .inr (fr2' a h)
    | ex c xs S2 =>
      rw [h] at p1
      exact p1
    | er =>
      rw [h] at p1
      exact p1.elim
  · exact p1.elim
end
end Dl
end

section
set_option Elab.async false
set_option linter.all false
set_option maxRecDepth 100000
set_option maxHeartbeats 1000000
/-! D7: operators. -/
namespace Dl
open PySem PySem.Spec PyProof.Rows L2

theorem opr_or {X : Cx} {f : Value → Value → Sem Value} {r q : R2} (h1 : OpR X f r) (h2 : OpR X f q) : OpR X f (fun x y H Q => r x y H Q ∨ q x y H Q) := fun pins s σ H x y v u Q I rx ry h =>
  h.elim (h1 pins s σ H x y v u Q I rx ry) (h2 pins s σ H x y v u Q I rx ry)
theorem opr_no {X : Cx} {f : Value → Value → Sem Value} : OpR X f (fun _ _ _ _ => False) := fun _ _ _ _ _ _ _ _ _ _ _ _ h => h.elim

section
variable {X : Cx}
/-- two lists, frozen ones too -/
def rCatS : R2 := fun x y H Q => ∃ l b xs zs, x = .ref l ∧ y = .ref b ∧ Rd H l (.lst xs) ∧ Rd H b (.lst zs) ∧ xs.length + zs.length ≤ sizeLine ∧ ∀ p, H p = none → Q (.ref p) (upd H p (.lst (xs ++ zs)))
theorem op_catS : OpR X (binaryOp .Add) rCatS := by
  intro pins s σ H x y v u Q I rx ry h
  obtain ⟨l, b, xs, zs, rfl, rfl, hH, hB, hz, q⟩ := h
  cases rx
  cases ry
  obtain ⟨z, its, n, r, e⟩ := hH.ok I.hok
  obtain ⟨z2, its2, n2, r2, e2⟩ := hB.ok I.hok
  have l1 := r.length
  have l2 := r2.length
  refine PySem.P.add_list e e2 ?_ (by rw [List.size_toArray, List.size_toArray]; omega)
  have ea : its.toArray ++ its2.toArray = (its ++ its2).toArray := by simp
  rw [ea]
  exact ⟨.ref _, _, I.lnew (t' := s.toks) (r.append r2) (by rw [List.length_append]; omega), rfl, q _ I.fresh⟩
/-- t + u -/
def rCatZ (K : PySem.W.Frag) : R2 := fun x y H Q => ∃ a b xs ys, x = .ref a ∧ y = .ref b ∧ SqT K H a xs ∧ SqT K H b ys ∧ xs.length + ys.length ≤ sizeLine ∧
  (xs = [] → Q (.ref b) H) ∧ (xs ≠ [] → ys = [] → Q (.ref a) H) ∧ (xs ≠ [] → ys ≠ [] → ∀ p (o : Obj), H p = none → o.dict = none → Q (.ref p) (upd H p (.frz o (.tup (xs ++ ys)))))
theorem op_catZ : OpR X (binaryOp .Add) (rCatZ X.K) := by
  intro pins s σ H x y v u Q I rx ry h
  obtain ⟨a, b, xs, ys, rfl, rfl, ha, hb, hz, q0, q1, q2⟩ := h
  cases rx
  cases ry
  obtain ⟨its, r1, p1, _⟩ := I.tuple ha
  obtain ⟨its2, r2, p2, _⟩ := I.tuple hb
  by_cases hx : xs = []
  · subst hx
    cases r1
    exact cat_tup0 p1 p2 ⟨.ref b, H, I, rfl, q0 rfl⟩
  · refine HT.cat_tup p1 p2 (fun z => hx (r1.nil_iff.mp z)) (fun z => ⟨.ref a, H, I, rfl, q1 hx (r2.nil_iff.mp z)⟩) (fun z => ?_) (by rw [← r1.length, ← r2.length]; exact hz)
    have hg := Heap.get?_push_size s.heap (o := { cls := .type "tuple", data := .seq (its ++ its2).toArray }) rfl
    refine ⟨.ref s.heap.objs.size, _, I.laid (t' := s.toks) (o := .frz { cls := .type "tuple", data := .seq (its ++ its2).toArray } (.tup (xs ++ ys))) (fun b ob q => Heap.get?_push_of_some _ q) (Nat.le_refl _) ?_, rfl, q2 hx (fun w => z (r2.nil_iff.mpr w)) _ _ (I.hok.fresh (Nat.le_refl _)) rfl⟩
    exact ⟨hg, by rw [List.length_append]; exact hz, _, r1.append r2, _, hg, rfl, 0, rfl⟩
def rRepS : R2 := fun x y H Q => ∃ l k xs, x = .ref l ∧ y = .int k ∧ Rd H l (.lst xs) ∧ -(2 ^ 63) ≤ k ∧ k < 2 ^ 63 ∧ xs.length * k.toNat ≤ sizeLine ∧
  ∀ p, H p = none → Q (.ref p) (upd H p (.lst (List.replicate k.toNat xs).flatten))
theorem op_repS : OpR X (binaryOp .Mult) rRepS := by
  intro pins s σ H x y v u Q I rx ry h
  obtain ⟨l, k, xs, rfl, rfl, hH, h1, h2, hz, q⟩ := h
  cases rx
  obtain ⟨t, rfl⟩ := ry
  obtain ⟨z, its, n, r, e⟩ := hH.ok I.hok
  have hl : xs.length = its.length := r.length
  have hlen : its.toArray.size * k.toNat ≤ sizeLine := by rw [List.size_toArray, ← hl]; exact hz
  have hcap : ¬ its.toArray.size * k.toNat > (2 ^ 63 - 1) / 8 := by
    have hs : (sizeLine : Nat) ≤ (2 ^ 63 - 1) / 8 := by decide
    omega
  have hfit : ¬ (!Builtin.List.listFitsIndex k) = true := by rw [fitsIndex_both h1 h2]; decide
  have hlong : ¬ Builtin.List.listTooLong (its.toArray.size * k.toNat) = true := by rw [notLongL hlen]; decide
  have hnew : List.foldl (fun x1 x2 => x1 ++ x2) #[] (List.replicate (if its.toArray.isEmpty = true then 0 else k.toNat) its.toArray) = (List.replicate k.toNat its).flatten.toArray := by
    have f0 : ∀ m : Nat, List.foldl (fun x1 x2 => x1 ++ x2) #[] (List.replicate m its.toArray) = (List.replicate m its).flatten.toArray := fun m => by
      have z := foldl_rep its m []
      rw [List.nil_append] at z
      exact z
    rw [f0]
    cases its with
    | nil => simp
    | cons a r' => rw [if_neg (by simp)]
  refine wpAny_binaryOp_repeat_ref (T := "list") (U := "int") (by decide) ⟨_, e, rfl⟩ (fun s' => typeIs_int s' k t) noFill_list_mul F.fills_int_mul F.slot_int_rmul repeat_list F.slot_int_index.lookup
    (call_meets F.slot_int_rmul (typeIs_int s k t) F.entry_int_rmul (F.args_int_rmul_2 _ _) (int___rmul___int_list k t l its.toArray n)
      ⟨e, rfl, ⟨_, e, rfl⟩, call_meets F.slot_list_mul ⟨_, e, rfl⟩ F.entry_list_mul (F.args_list_mul_2 _ _) (AutoListH.list___mul___list_int_3 l its.toArray n k t hfit hcap hlong) ⟨e, ?_⟩⟩)
  rw [hnew]
  exact ⟨.ref _, _, I.lnew (t' := s.toks) (r.rep k.toNat) (by rw [PyProof.Rows.lm_len_rep_flat, Nat.mul_comm]; exact hz), rfl, q _ I.fresh⟩
def rBin (K : PySem.W.Frag) (o : Operator) : R2 := match o with
  | .Add => fun x y H Q => rI0 (fun i j => .int (i + j)) x y H Q ∨ rCatZ K x y H Q ∨ rCatS x y H Q
  | .Sub => rI0 fun i j => .int (i - j)
  | .Mult => fun x y H Q => rI CMulW (fun i j => .int (i * j)) x y H Q ∨ rRepS x y H Q
  | .FloorDiv => rI CDivW fun i j => .int (i / j)
  | .Mod => rI (fun _ j => j ≠ 0) fun i j => .int (i.fmod j)
  | .Pow => rI CPow fun i j => .int (i ^ j.toNat)
  | _ => fun _ _ _ _ => False
theorem op_bin (o : Operator) : OpR X (binaryOp o) (rBin X.K o) := by
  cases o with
  | Add => exact opr_or op_add (opr_or op_catZ op_catS)
  | Sub => exact op_sub
  | Mult => exact opr_or op_mulW op_repS
  | FloorDiv => exact op_fdivW
  | Mod => exact op_modN
  | Pow => exact op_pow
  | _ => exact opr_no
end
section
variable {T : Pg} {ad : Ad} {b : List Nat} {W : WX} {X : Cx} {K : PySem.W.Frag} {C : List Nat → Nat → List D → Sto → R D}
variable {s : L2.St} {e : Env} {S : Sto} {H : Hp} {mu : List Addr} {nu : Addr → Prop} {v1 v2 : V} {d1 d2 : D} {f1 f2 : List Addr} {Q : VK}
theorem RepOL.sc : ∀ {vs : List V} {ds : List D} {fp : List Addr}, RepOL T ad H mu nu vs ds fp → ds.all isSc = true → fp = []
  | _, _, _, .nil, _ => rfl
  | _, d :: _, _, .cons h1 h2, h => by
    rw [List.all_cons, Bool.and_eq_true] at h
    rw [h2.sc h.2, List.append_nil]
    cases d with
    | non => exact h1.non.2
    | bl _ => exact h1.bl.2
    | int _ => exact h1.int.2
    | str _ => exact h1.str.2
    | _ => exact absurd (show false = true from h.1) Bool.false_ne_true
theorem RepOL.rep {vs : List V} {ds : List D} (h : RepOL T ad H mu nu vs ds []) : ∀ n : Nat, RepOL T ad H mu nu (List.replicate n vs).flatten (List.replicate n ds).flatten []
  | 0 => .nil
  | n + 1 => by
    rw [List.replicate_succ, List.replicate_succ, List.flatten_cons, List.flatten_cons]
    exact h.app (RepOL.rep h n)
theorem RepOL.nil_iff {vs : List V} {ds : List D} {fp : List Addr} (h : RepOL T ad H mu nu vs ds fp) : vs = [] ↔ ds = [] := by
  have e := h.length
  constructor
  · intro z; subst z; exact List.eq_nil_of_length_eq_zero e.symm
  · intro z; subst z; exact List.eq_nil_of_length_eq_zero e
theorem Own.left (o : Own nu (f1 ++ f2)) : Own nu f1 := ⟨(List.nodup_append.mp o.1).1, fun a h => o.2 a (List.mem_append_left _ h)⟩
theorem Own.right (o : Own nu (f1 ++ f2)) : Own nu f2 := ⟨(List.nodup_append.mp o.1).2.1, fun a h => o.2 a (List.mem_append_right _ h)⟩
theorem Own.parts {g1 g2 : List Addr} (o : Own nu (f1 ++ f2)) (h1 : ∀ x, x ∈ g1 → x ∈ f1) (n1 : f1.Nodup → g1.Nodup) (h2 : ∀ x, x ∈ g2 → x ∈ f2) (n2 : f2.Nodup → g2.Nodup) : Own nu (g1 ++ g2) := by
  obtain ⟨a1, a2, a3⟩ := List.nodup_append.mp o.1
  refine ⟨List.nodup_append.mpr ⟨n1 a1, n2 a2, fun x hx y hy => a3 x (h1 x hx) y (h2 y hy)⟩, fun a h => ?_⟩
  rcases List.mem_append.mp h with h | h
  · exact o.2 a (List.mem_append_left _ (h1 a h))
  · exact o.2 a (List.mem_append_right _ (h2 a h))
theorem binF_ok {o : Operator} (st : Sta T ad b H mu nu s e S) (r1 : RepO T ad H mu nu v1 d1 f1) (r2 : RepO T ad H mu nu v2 d2 f2) (ow : Own nu (f1 ++ f2)) (p : Pst T ad b W s e (binF o d1 d2 S) H mu nu (f1 ++ f2) Q) : rBin K o v1 v2 H Q := by
  unfold binF at p
  split at p
  · rw [r1.int.1, r2.int.1]; exact .inl ⟨_, _, rfl, rfl, p.val st (.int _)⟩
  · rw [r1.int.1, r2.int.1]; exact ⟨_, _, rfl, rfl, p.val st (.int _)⟩
  · split at p
    · rename_i h; rw [r1.int.1, r2.int.1]; exact .inl ⟨_, _, rfl, rfl, h, p.val st (.int _)⟩
    · exact p.elim
  · split at p
    · rename_i h; rw [r1.int.1, r2.int.1]; exact ⟨_, _, rfl, rfl, h, p.val st (.int _)⟩
    · exact p.elim
  · split at p
    · rename_i h; rw [r1.int.1, r2.int.1]; exact ⟨_, _, rfl, rfl, h, p.val st (.int _)⟩
    · exact p.elim
  · split at p
    · rename_i h; rw [r1.int.1, r2.int.1]; exact ⟨_, _, rfl, rfl, h, p.val st (.int _)⟩
    · exact p.elim
  · split at p
    · rename_i hl
      obtain ⟨a1, w1, rfl, n1, h1, q1⟩ := r1.tup_
      obtain ⟨a2, w2, rfl, n2, h2, q2⟩ := r2.tup_
      refine .inr (.inl ⟨a1, a2, w1, w2, rfl, rfl, h1.sq, h2.sq, by rw [q1.length, q2.length]; exact hl, fun z => ?_, fun _ z => ?_, fun _ _ q o hq ho => ?_⟩)
      · have e1 := q1.nil_iff.mp z
        subst e1
        refine p.fin st (.tup n2 h2 q2) ow.right fun a h => List.mem_append_right _ h
      · have e2 := q2.nil_iff.mp z
        subst e2
        rw [List.append_nil] at p
        exact p.fin st (.tup n1 h1 q1) ow.left fun a h => List.mem_append_left _ h
      · exact p.tup st (q1.app q2) ow (fun a h => h) hq ho
    · exact p.elim
  · split at p
    · rename_i o1 xs o2 ys e1 e2
      split at p
      · rename_i hl
        obtain ⟨a1, w1, g1, rfl, h1, q1, i1, j1⟩ := look_lst (K := K) st r1 e1
        obtain ⟨a2, w2, g2, rfl, h2, q2, i2, j2⟩ := look_lst (K := K) st r2 e2
        refine .inr (.inr ⟨a1, a2, w1, w2, rfl, rfl, h1, h2, by rw [q1.length, q2.length]; exact hl, fun q hq => ?_⟩)
        refine p.lst st (q1.app q2) (ow.parts i1 j1 i2 j2) (fun a h => ?_) hq
        rcases List.mem_append.mp h with h | h
        · exact List.mem_append_left _ (i1 a h)
        · exact List.mem_append_right _ (i2 a h)
      · exact p.elim
    · exact p.elim
  · split at p
    · rename_i o1 xs e1
      split at p
      · rename_i h
        obtain ⟨hs, ha, hb, hz⟩ := h
        obtain ⟨a1, w1, g1, rfl, h1, q1, i1, j1⟩ := look_lst (K := K) st r1 e1
        rw [r2.int.1]
        have eg := q1.sc hs
        subst eg
        exact .inr ⟨a1, _, w1, rfl, rfl, h1, ha, hb, by rw [q1.length]; exact hz, fun q hq => p.lst st (q1.rep _) .nil (fun a h => absurd h List.not_mem_nil) hq⟩
      · exact p.elim
    · exact p.elim
  · exact p.elim
theorem bin_ok {o : Operator} {x y : E} : ∀ s H Q, tE T ad b W (ev T C b (.bin o x y)) s H Q → tOp (rBin K o) (tE T ad b W (ev T C b x)) (tE T ad b W (ev T C b y)) s H Q := fun s H Q h => by
  obtain ⟨mu, nu, e, S, st, p⟩ := h
  rw [ev] at p
  exact two_ok (g := fun x y S => binF o x y S) st p fun v1 d1 f1 v2 d2 f2 S2 H2 mu2 nu2 x2 st2 r1 r2 ow p2 => binF_ok st2 r1 r2 ow p2
end
end Dl
end

section
set_option Elab.async false
set_option linter.all false
set_option maxRecDepth 100000
set_option maxHeartbeats 1000000
/-! D8: comparisons. -/
namespace Dl
open PySem PySem.Spec PyProof.Rows L2

/-! ### comparable data as the library has them -/
mutual
theorem okD_shape : ∀ (n : Nat) (d : D), okD n d = true → (toPy d).canLay0 = true ∧ (toPy d).depth ≤ n
  | n, .non, _ => by simp [toPy, PyData.canLay0, PyData.depth]
  | n, .bl _, _ => by simp [toPy, PyData.canLay0, PyData.depth]
  | n, .int _, _ => by simp [toPy, PyData.canLay0, PyData.depth]
  | n, .str x, h => by
    have h' : PyData.strOk x = true := by cases n <;> exact h
    simp [toPy, PyData.canLay0, PyData.depth, h']
  | 0, .tup _, h => absurd (show false = true from h) Bool.false_ne_true
  | n + 1, .tup xs, h => by
    have q := okL_shape n xs h
    simp only [toPy, PyData.canLay0, PyData.depth]
    exact ⟨q.1, Nat.succ_le_succ q.2⟩
  | 0, .lst _ _, h => absurd (show false = true from h) Bool.false_ne_true
  | n + 1, .lst _ xs, h => by
    have q := okL_shape n xs h
    simp only [toPy, PyData.canLay0, PyData.depth]
    exact ⟨q.1, Nat.succ_le_succ q.2⟩
  | n, .dic _ _ _, h => absurd (show false = true by cases n <;> exact h) Bool.false_ne_true
  | n, .set _ _, h => absurd (show false = true by cases n <;> exact h) Bool.false_ne_true
  | n, .ins _ _ _, h => absurd (show false = true by cases n <;> exact h) Bool.false_ne_true
  | n, .ref _, h => absurd (show false = true by cases n <;> exact h) Bool.false_ne_true
  | n, .fn _, h => absurd (show false = true by cases n <;> exact h) Bool.false_ne_true
  | n, .cls _, h => absurd (show false = true by cases n <;> exact h) Bool.false_ne_true
  | n, .exc _ _, h => absurd (show false = true by cases n <;> exact h) Bool.false_ne_true
theorem okL_shape : ∀ (n : Nat) (ds : List D), okL n ds = true → PyData.canLayAll0 (toPyL ds) = true ∧ PyData.depthAll (toPyL ds) ≤ n
  | n, [], _ => by simp [toPyL, PyData.canLayAll0, PyData.depthAll]
  | n, d :: ds, h => by
    have h' : okD n d = true ∧ okL n ds = true := Bool.and_eq_true_iff.mp (by simpa only [okL] using h)
    have q1 := okD_shape n d h'.1
    have q2 := okL_shape n ds h'.2
    simp only [toPyL, PyData.canLayAll0, PyData.depthAll, q1.1, q2.1, Bool.and_self, true_and]
    exact Nat.max_le.mpr ⟨q1.2, q2.2⟩
end
theorem okD_shaped {d : D} (h : okD 60 d = true) : SeqAt.shaped (toPy d) = true := by
  have q := okD_shape 60 d h
  unfold SeqAt.shaped
  rw [q.1, Bool.true_and]
  exact decide_eq_true (Nat.le_trans q.2 (by decide))
theorem okL_shaped {ds : List D} (h : okL 60 ds = true) : SeqAt.shaped (.list (toPyL ds)) = true := by
  have q := okL_shape 60 ds h
  unfold SeqAt.shaped
  simp only [PyData.canLay0, PyData.depth, q.1, Bool.true_and]
  exact decide_eq_true (by omega)
theorem okL_shapedT {ds : List D} (h : okL 60 ds = true) : SeqAt.shaped (.tuple (toPyL ds)) = true := by
  have q := okL_shape 60 ds h
  unfold SeqAt.shaped
  simp only [PyData.canLay0, PyData.depth, q.1, Bool.true_and]
  exact decide_eq_true (by omega)
mutual
theorem eqD_py : ∀ (n m : Nat) (x y : D), okD n x = true → okD m y = true → eqD x y = PyData.eqv (toPy x) (toPy y)
  | n, m, x, y, hx, hy => by
    cases x with
    | dic _ _ _ => exact absurd (show false = true by cases n <;> exact hx) Bool.false_ne_true
    | set _ _ => exact absurd (show false = true by cases n <;> exact hx) Bool.false_ne_true
    | ins _ _ _ => exact absurd (show false = true by cases n <;> exact hx) Bool.false_ne_true
    | ref _ => exact absurd (show false = true by cases n <;> exact hx) Bool.false_ne_true
    | fn _ => exact absurd (show false = true by cases n <;> exact hx) Bool.false_ne_true
    | cls _ => exact absurd (show false = true by cases n <;> exact hx) Bool.false_ne_true
    | exc _ _ => exact absurd (show false = true by cases n <;> exact hx) Bool.false_ne_true
    | tup xs =>
      cases n with
      | zero => exact absurd (show false = true from hx) Bool.false_ne_true
      | succ n =>
        cases y with
        | tup ys =>
          cases m with
          | zero => exact absurd (show false = true from hy) Bool.false_ne_true
          | succ m =>
            simp only [eqD, toPy, PyData.eqv]
            exact eqL_py n m xs ys hx hy
        | dic _ _ _ => exact absurd (show false = true by cases m <;> exact hy) Bool.false_ne_true
        | set _ _ => exact absurd (show false = true by cases m <;> exact hy) Bool.false_ne_true
        | ins _ _ _ => exact absurd (show false = true by cases m <;> exact hy) Bool.false_ne_true
        | ref _ => exact absurd (show false = true by cases m <;> exact hy) Bool.false_ne_true
        | fn _ => exact absurd (show false = true by cases m <;> exact hy) Bool.false_ne_true
        | cls _ => exact absurd (show false = true by cases m <;> exact hy) Bool.false_ne_true
        | exc _ _ => exact absurd (show false = true by cases m <;> exact hy) Bool.false_ne_true
        | _ => simp only [eqD, toPy, PyData.eqv]
    | lst _ xs =>
      cases n with
      | zero => exact absurd (show false = true from hx) Bool.false_ne_true
      | succ n =>
        cases y with
        | lst _ ys =>
          cases m with
          | zero => exact absurd (show false = true from hy) Bool.false_ne_true
          | succ m =>
            simp only [eqD, toPy, PyData.eqv]
            exact eqL_py n m xs ys hx hy
        | dic _ _ _ => exact absurd (show false = true by cases m <;> exact hy) Bool.false_ne_true
        | set _ _ => exact absurd (show false = true by cases m <;> exact hy) Bool.false_ne_true
        | ins _ _ _ => exact absurd (show false = true by cases m <;> exact hy) Bool.false_ne_true
        | ref _ => exact absurd (show false = true by cases m <;> exact hy) Bool.false_ne_true
        | fn _ => exact absurd (show false = true by cases m <;> exact hy) Bool.false_ne_true
        | cls _ => exact absurd (show false = true by cases m <;> exact hy) Bool.false_ne_true
        | exc _ _ => exact absurd (show false = true by cases m <;> exact hy) Bool.false_ne_true
        | _ => simp only [eqD, toPy, PyData.eqv]
    | _ =>
      cases y with
      | dic _ _ _ => exact absurd (show false = true by cases m <;> exact hy) Bool.false_ne_true
      | set _ _ => exact absurd (show false = true by cases m <;> exact hy) Bool.false_ne_true
      | ins _ _ _ => exact absurd (show false = true by cases m <;> exact hy) Bool.false_ne_true
      | ref _ => exact absurd (show false = true by cases m <;> exact hy) Bool.false_ne_true
      | fn _ => exact absurd (show false = true by cases m <;> exact hy) Bool.false_ne_true
      | cls _ => exact absurd (show false = true by cases m <;> exact hy) Bool.false_ne_true
      | exc _ _ => exact absurd (show false = true by cases m <;> exact hy) Bool.false_ne_true
      | _ => simp only [eqD, toPy, PyData.eqv]
theorem eqL_py : ∀ (n m : Nat) (xs ys : List D), okL n xs = true → okL m ys = true → eqL xs ys = PyData.eqvAll (toPyL xs) (toPyL ys)
  | _, _, [], [], _, _ => by simp only [eqL, toPyL, PyData.eqvAll]
  | _, _, [], _ :: _, _, _ => by simp only [eqL, toPyL, PyData.eqvAll]
  | _, _, _ :: _, [], _, _ => by simp only [eqL, toPyL, PyData.eqvAll]
  | n, m, x :: xs, y :: ys, hx, hy => by
    have h1 : okD n x = true ∧ okL n xs = true := Bool.and_eq_true_iff.mp (by simpa only [okL] using hx)
    have h2 : okD m y = true ∧ okL m ys = true := Bool.and_eq_true_iff.mp (by simpa only [okL] using hy)
    simp only [eqL, toPyL, PyData.eqvAll]
    rw [eqD_py n m x y h1.1 h2.1, eqL_py n m xs ys h1.2 h2.2]
end

section
variable {T : Pg} {ad : Ad} {b : List Nat} {W : WX} {X : Cx} {K : PySem.W.Frag} {C : List Nat → Nat → List D → Sto → R D}
variable {s : L2.St} {e : Env} {S : Sto} {H : Hp} {mu : List Addr} {nu : Addr → Prop}
mutual
theorem dp_ok : ∀ (n : Nat) (d : D) {v : V} {fp : List Addr}, RepO T ad H mu nu v d fp → okD n d = true → Dp K H v (toPy d)
  | n, .non, _, _, r, _ => by rw [r.non.1]; exact .non
  | n, .bl _, _, _, r, _ => by rw [r.bl.1]; exact .bl _
  | n, .int _, _, _, r, _ => by rw [r.int.1]; exact .int _
  | n, .str _, _, _, r, _ => by rw [r.str.1]; exact .str _
  | 0, .tup _, _, _, _, h => absurd (show false = true from h) Bool.false_ne_true
  | n + 1, .tup xs, _, _, r, h => by
    obtain ⟨a, vs, rfl, _, ha, q⟩ := r.tup_
    exact .tup ha.sq (dpL_ok n xs q h)
  | 0, .lst _ _, _, _, _, h => absurd (show false = true from h) Bool.false_ne_true
  | n + 1, .lst _ xs, _, _, r, h => by
    obtain ⟨a, vs, gp, rfl, ha, q, _, _⟩ := r.lst_
    exact .lst (.inl ha) (dpL_ok n xs q h)
  | n, .dic _ _ _, _, _, _, h => absurd (show false = true by cases n <;> exact h) Bool.false_ne_true
  | n, .set _ _, _, _, _, h => absurd (show false = true by cases n <;> exact h) Bool.false_ne_true
  | n, .ins _ _ _, _, _, _, h => absurd (show false = true by cases n <;> exact h) Bool.false_ne_true
  | n, .ref _, _, _, _, h => absurd (show false = true by cases n <;> exact h) Bool.false_ne_true
  | n, .fn _, _, _, _, h => absurd (show false = true by cases n <;> exact h) Bool.false_ne_true
  | n, .cls _, _, _, _, h => absurd (show false = true by cases n <;> exact h) Bool.false_ne_true
  | n, .exc _ _, _, _, _, h => absurd (show false = true by cases n <;> exact h) Bool.false_ne_true
theorem dpL_ok : ∀ (n : Nat) (ds : List D) {vs : List V} {fp : List Addr}, RepOL T ad H mu nu vs ds fp → okL n ds = true → DpAll K H vs (toPyL ds)
  | n, [], _, _, r, _ => by cases r; exact .nil
  | n, d :: ds, _, _, r, h => by
    have h1 : okD n d = true ∧ okL n ds = true := Bool.and_eq_true_iff.mp (by simpa only [okL] using h)
    cases r with
    | cons r1 r2 => exact .cons (dp_ok n d r1 h1.1) (dpL_ok n ds r2 h1.2)
end
theorem snapL_ok (f : Nat) (ih : ∀ (n : Nat) (d : D) {v : V} {fp : List Addr}, RepO T ad H mu nu v d fp → okD n (snap S f d) = true → Dp K H v (toPy (snap S f d))) :
    ∀ (n : Nat) (ds : List D) {vs : List V} {fp : List Addr}, RepOL T ad H mu nu vs ds fp → okL n (ds.map (snap S f)) = true → DpAll K H vs (toPyL (ds.map (snap S f)))
  | n, [], _, _, r, _ => by cases r; exact .nil
  | n, d :: ds, _, _, r, h => by
    have h1 : okD n (snap S f d) = true ∧ okL n (ds.map (snap S f)) = true := Bool.and_eq_true_iff.mp (by simpa only [List.map_cons, okL] using h)
    cases r with
    | cons r1 r2 => exact .cons (ih n d r1 h1.1) (snapL_ok f ih n ds r2 h1.2)
theorem snap_ok (st : Sta T ad b H mu nu s e S) : ∀ (f n : Nat) (d : D) {v : V} {fp : List Addr}, RepO T ad H mu nu v d fp → okD n (snap S f d) = true → Dp K H v (toPy (snap S f d))
  | 0, n, d, _, _, r, h => dp_ok n d r h
  | f + 1, n, d, v, fp, r, h => by
    have ih := fun n d {v fp} => @snap_ok st f n d v fp
    cases d with
    | ref k =>
      obtain ⟨a, rfl, rfl, ha⟩ := r.ref
      simp only [snap] at h ⊢
      split at h
      · rename_i o xs hk
        cases st.cel k a _ ha hk with
        | lst q rl =>
          cases n with
          | zero => exact absurd (show false = true from h) Bool.false_ne_true
          | succ n => exact .lst (SqL.of q) (snapL_ok f ih n xs (Rep.ofL _ rl) h)
      · exact absurd (show false = true by cases n <;> exact h) Bool.false_ne_true
    | tup xs =>
      simp only [snap] at h ⊢
      cases n with
      | zero => exact absurd (show false = true from h) Bool.false_ne_true
      | succ n =>
        obtain ⟨a, vs, rfl, _, ha, q⟩ := r.tup_
        exact .tup ha.sq (snapL_ok f ih n xs q h)
    | lst o xs =>
      simp only [snap] at h ⊢
      cases n with
      | zero => exact absurd (show false = true from h) Bool.false_ne_true
      | succ n =>
        obtain ⟨a, vs, gp, rfl, ha, q, _, _⟩ := r.lst_
        exact .lst (.inl ha) (snapL_ok f ih n xs q h)
    | _ => exact dp_ok n _ r h
theorem norm_ok (st : Sta T ad b H mu nu s e S) {v : V} {d x : D} {fp : List Addr} (r : RepO T ad H mu nu v d fp) (h : norm S d = some x) : Dp K H v (toPy x) ∧ okD 60 x = true := by
  unfold norm at h
  split at h
  · rename_i ho
    cases h
    exact ⟨dp_ok 60 d r ho, ho⟩
  · dsimp only at h
    split at h
    · rename_i ho
      cases h
      exact ⟨snap_ok st 8 60 d r ho, ho⟩
    · cases h
theorem normL_ok (st : Sta T ad b H mu nu s e S) {vs : List V} {ds zs : List D} {fp : List Addr} (r : RepOL T ad H mu nu vs ds fp) (h : norm S (.tup ds) = some (.tup zs)) : DpAll K H vs (toPyL zs) ∧ okL 60 zs = true := by
  have up : ∀ l : List D, okL 59 l = true → okL 60 l = true := by
    have upD : ∀ (n : Nat) (d : D), okD n d = true → okD (n + 1) d = true := by
      intro n
      induction n with
      | zero =>
        intro d hd
        cases d with
        | tup _ => exact absurd (show false = true from hd) Bool.false_ne_true
        | lst _ _ => exact absurd (show false = true from hd) Bool.false_ne_true
        | _ => exact hd
      | succ n ih =>
        have ihl : ∀ l : List D, okL n l = true → okL (n + 1) l = true := by
          intro l
          induction l with
          | nil => intro _; rfl
          | cons d l ihl =>
            intro hl
            have h1 : okD n d = true ∧ okL n l = true := Bool.and_eq_true_iff.mp (by simpa only [okL] using hl)
            simp only [okL, ih d h1.1, ihl h1.2, Bool.and_self]
        intro d hd
        cases d with
        | tup xs => exact ihl xs hd
        | lst _ xs => exact ihl xs hd
        | _ => exact hd
    intro l
    induction l with
    | nil => intro _; rfl
    | cons d l ihl =>
      intro hl
      have h1 : okD 59 d = true ∧ okL 59 l = true := Bool.and_eq_true_iff.mp (by simpa only [okL] using hl)
      simp only [okL, upD 59 d h1.1, ihl h1.2, Bool.and_self]
  unfold norm at h
  split at h
  · rename_i ho
    cases h
    exact ⟨dpL_ok 59 ds r ho, up _ ho⟩
  · dsimp only at h
    split at h
    · rename_i ho
      cases h
      exact ⟨snapL_ok 7 (fun n d {v fp} => @snap_ok _ _ _ _ _ _ _ _ _ _ st 7 n d v fp) 59 ds r ho, up _ ho⟩
    · cases h

/-! ### in, not in -/
def rInA (K : PySem.W.Frag) : R2 := fun x y H Q => ∃ d ds, Dp K H x d ∧ (Dp K H y (.list ds) ∧ SeqAt.shaped (.list ds) = true ∨ Dp K H y (.tuple ds) ∧ SeqAt.shaped (.tuple ds) = true) ∧ SeqAt.shaped d = true ∧ Q (.bl (ds.any fun z => PyData.eqv z d)) H
def rNotInA (K : PySem.W.Frag) : R2 := fun x y H Q => ∃ d ds, Dp K H x d ∧ (Dp K H y (.list ds) ∧ SeqAt.shaped (.list ds) = true ∨ Dp K H y (.tuple ds) ∧ SeqAt.shaped (.tuple ds) = true) ∧ SeqAt.shaped d = true ∧ Q (.bl (!ds.any fun z => PyData.eqv z d)) H
theorem op_inA (hu : X.A.units + 65 < cLine) : OpR X (compareOp .In) (rInA X.K) := by
  intro pins s σ H x y v u Q I rx ry h
  obtain ⟨d, ds, hd, he, sd, q⟩ := h
  obtain ⟨as, r1⟩ := Dp.reads I d x v hd rx
  rcases he with ⟨he, se⟩ | ⟨he, se⟩
  · obtain ⟨bs, r2⟩ := Dp.reads I (.list ds) y u he ry
    exact SeqAt.in_list_reads r2 r1 (SeqAt.canLay_of_shaped se) (SeqAt.canLay_of_shaped sd) (room_in_shaped sd hu) ⟨.bl _, H, I, rfl, q⟩
  · obtain ⟨bs, r2⟩ := Dp.reads I (.tuple ds) y u he ry
    exact SeqAt.in_tuple_reads r2 r1 (SeqAt.canLay_of_shaped se) (SeqAt.canLay_of_shaped sd) (room_in_shaped sd hu) ⟨.bl _, H, I, rfl, q⟩
theorem op_notInA (hu : X.A.units + 65 < cLine) : OpR X (compareOp .NotIn) (rNotInA X.K) := by
  intro pins s σ H x y v u Q I rx ry h
  obtain ⟨d, ds, hd, he, sd, q⟩ := h
  obtain ⟨as, r1⟩ := Dp.reads I d x v hd rx
  rcases he with ⟨he, se⟩ | ⟨he, se⟩
  · obtain ⟨bs, r2⟩ := Dp.reads I (.list ds) y u he ry
    exact SeqAt.notIn_list_reads r2 r1 (SeqAt.canLay_of_shaped se) (SeqAt.canLay_of_shaped sd) (room_in_shaped sd hu) ⟨.bl _, H, I, rfl, q⟩
  · obtain ⟨bs, r2⟩ := Dp.reads I (.tuple ds) y u he ry
    exact SeqAt.notIn_tuple_reads r2 r1 (SeqAt.canLay_of_shaped se) (SeqAt.canLay_of_shaped sd) (room_in_shaped sd hu) ⟨.bl _, H, I, rfl, q⟩
def rCmp (K : PySem.W.Frag) (o : CmpOp) : R2 := match o with
  | .Eq => fun x y H Q => rEq x y H Q ∨ rEqD K x y H Q
  | .NotEq => fun x y H Q => rNe x y H Q ∨ rNeD K x y H Q
  | .Lt => rI0 fun i j => .bl (decide (i < j))
  | .LtE => rI0 fun i j => .bl (decide (i ≤ j))
  | .Gt => rI0 fun i j => .bl (decide (j < i))
  | .GtE => rI0 fun i j => .bl (decide (j ≤ i))
  | .Is => fun x y H Q => y = .non ∧ Q (.bl (decide (x = .non))) H
  | .IsNot => fun x y H Q => y = .non ∧ Q (.bl (!decide (x = .non))) H
  | .In => rInA K
  | .NotIn => rNotInA K
theorem op_cmp (hu : X.A.units + 65 < cLine) (o : CmpOp) : OpR X (compareOp o) (rCmp X.K o) := by
  have hu' : X.A.units + 64 < cLine := by omega
  cases o with
  | Eq => exact opr_or op_eq (op_eqD hu')
  | NotEq => exact opr_or op_ne (op_neD hu')
  | Lt => exact op_lt
  | LtE => exact op_le
  | Gt => exact op_gt
  | GtE => exact op_ge
  | Is => exact op_isN
  | IsNot => exact op_notN
  | In => exact op_inA hu
  | NotIn => exact op_notInA hu
theorem any_py {n m : Nat} {x : D} (hx : okD n x = true) : ∀ zs : List D, okL m zs = true → (toPyL zs).any (fun z => PyData.eqv z (toPy x)) = zs.any fun z => eqD z x
  | [], _ => rfl
  | z :: zs, h => by
    have h1 : okD m z = true ∧ okL m zs = true := Bool.and_eq_true_iff.mp (by simpa only [okL] using h)
    simp only [toPyL, List.any_cons]
    rw [any_py hx zs h1.2, eqD_py m n z x h1.1 hx]
theorem RepO.isNon {v : V} {d : D} {fp : List Addr} (r : RepO T ad H mu nu v d fp) (h : d ≠ .non) : v ≠ .non := by
  rintro rfl
  cases r with
  | of r => cases r; exact h rfl
/-- a comparison's answer -/
theorem cmpF_ok {o : CmpOp} {v1 v2 : V} {d1 d2 : D} {f1 f2 : List Addr} {c : Bool} {Q : VK} (st : Sta T ad b H mu nu s e S) (r1 : RepO T ad H mu nu v1 d1 f1) (r2 : RepO T ad H mu nu v2 d2 f2) (h : cmpF o d1 d2 S = some c) (q : Q (.bl c) H) : rCmp K o v1 v2 H Q := by
  unfold cmpF at h
  split at h
  · split at h
    · cases h
      rw [r1.str.1, r2.str.1]
      refine .inl ⟨rfl, ?_⟩
      rename_i x y
      have ed : decide (V.str x = V.str y) = decide (x = y) := by simp
      rw [ed]
      exact q
    · split at h
      · rename_i x y hx hy
        cases h
        obtain ⟨a1, a2⟩ := norm_ok (K := K) st r1 hx
        obtain ⟨b1, b2⟩ := norm_ok (K := K) st r2 hy
        exact .inr ⟨_, _, a1, b1, okD_shaped a2, okD_shaped b2, by rw [← eqD_py 60 60 x y a2 b2]; exact q⟩
      · cases h
  · split at h
    · cases h
      rw [r1.str.1, r2.str.1]
      refine .inl ⟨rfl, ?_⟩
      rename_i x y
      have ed : decide (V.str x = V.str y) = decide (x = y) := by simp
      rw [ed]
      exact q
    · split at h
      · rename_i x y hx hy
        cases h
        obtain ⟨a1, a2⟩ := norm_ok (K := K) st r1 hx
        obtain ⟨b1, b2⟩ := norm_ok (K := K) st r2 hy
        exact .inr ⟨_, _, a1, b1, okD_shaped a2, okD_shaped b2, by rw [← eqD_py 60 60 x y a2 b2]; exact q⟩
      · cases h
  · split at h
    · cases h; rw [r1.int.1, r2.int.1]; exact ⟨_, _, rfl, rfl, q⟩
    · cases h
  · split at h
    · cases h; rw [r1.int.1, r2.int.1]; exact ⟨_, _, rfl, rfl, q⟩
    · cases h
  · split at h
    · cases h; rw [r1.int.1, r2.int.1]; exact ⟨_, _, rfl, rfl, q⟩
    · cases h
  · split at h
    · cases h; rw [r1.int.1, r2.int.1]; exact ⟨_, _, rfl, rfl, q⟩
    · cases h
  · split at h
    · split at h
      · cases h; rw [r1.non.1]; exact ⟨r2.non.1, q⟩
      · cases h
        rename_i hn
        refine ⟨r2.non.1, ?_⟩
        rw [decide_eq_false (r1.isNon fun z => hn z)]
        exact q
    · cases h
  · split at h
    · split at h
      · cases h; rw [r1.non.1]; exact ⟨r2.non.1, q⟩
      · cases h
        rename_i hn
        refine ⟨r2.non.1, ?_⟩
        rw [decide_eq_false (r1.isNon fun z => hn z)]
        exact q
    · cases h
  · split at h
    · rename_i x ys hx hk
      split at h
      · rename_i zs hz
        cases h
        obtain ⟨a1, a2⟩ := norm_ok (K := K) st r1 hx
        obtain ⟨vs, gp, t, sq, rk, _, _⟩ := kids_ok (K := K) st r2 hk
        obtain ⟨b1, b2⟩ := normL_ok (K := K) st rk hz
        refine ⟨_, toPyL zs, a1, ?_, okD_shaped a2, by rw [any_py a2 zs b2]; exact q⟩
        cases sq with
        | lst hr => exact .inl ⟨.lst (.inl hr) b1, okL_shaped b2⟩
        | tup hr => exact .inr ⟨.tup hr.sq b1, okL_shapedT b2⟩
      · cases h
    · cases h
  · split at h
    · rename_i x ys hx hk
      split at h
      · rename_i zs hz
        cases h
        obtain ⟨a1, a2⟩ := norm_ok (K := K) st r1 hx
        obtain ⟨vs, gp, t, sq, rk, _, _⟩ := kids_ok (K := K) st r2 hk
        obtain ⟨b1, b2⟩ := normL_ok (K := K) st rk hz
        refine ⟨_, toPyL zs, a1, ?_, okD_shaped a2, by rw [any_py a2 zs b2]; exact q⟩
        cases sq with
        | lst hr => exact .inl ⟨.lst (.inl hr) b1, okL_shaped b2⟩
        | tup hr => exact .inr ⟨.tup hr.sq b1, okL_shapedT b2⟩
      · cases h
    · cases h
theorem cmp_ok {o : CmpOp} {x y : E} : ∀ s H Q, tE T ad b W (ev T C b (.cmp o x y)) s H Q → tOp (rCmp K o) (tE T ad b W (ev T C b x)) (tE T ad b W (ev T C b y)) s H Q := fun s H Q h => by
  obtain ⟨mu, nu, e, S, st, p⟩ := h
  rw [ev] at p
  refine two_ok (g := fun x y S => R.ofO ((cmpF o x y S).map .bl) S) st p fun v1 d1 f1 v2 d2 f2 S2 H2 mu2 nu2 x2 st2 r1 r2 ow p2 => ?_
  cases h : cmpF o d1 d2 S2 with
  | some c =>
    rw [h] at p2
    exact cmpF_ok st2 r1 r2 h (p2.val st2 (.bl c))
  | none =>
    rw [h] at p2
    exact p2.elim
end
end Dl
end

section
set_option Elab.async false
set_option linter.all false
set_option maxRecDepth 100000
set_option maxHeartbeats 1000000
/-! D9: built-in functions. -/
namespace Dl
open PySem PySem.Spec PyProof.Rows L2

/-! ### walks over a list or a tuple -/
section
variable {X : Cx} {pins : List (Addr × Obj)} {σ : L2.St} {H : Hp} {s : Shared} {K : PySem.W.Frag}
/-- the object of a list or tuple -/
theorem Seq.obj {v : V} {xs : List V} {c : Bool} (I : Inv X pins σ H s) (q : Seq K H v xs c) : ∃ a its, v = .ref a ∧ Vals xs its ∧ xs.length ≤ sizeLine ∧ (s.heap.IsList a its.toArray ∨ s.heap.IsTuple a its.toArray) := by
  cases q with
  | @lst a vs hr =>
    obtain ⟨z, its, n, r, e⟩ := hr.ok I.hok
    exact ⟨a, its, rfl, r, z, .inl ⟨_, e, rfl, n, rfl⟩⟩
  | @tup a vs hr =>
    obtain ⟨z, its, r, p⟩ := hr.rd.ok I.hok
    exact ⟨a, its, rfl, r, z, .inr p⟩
/-- the object of a list or tuple, as it stands -/
theorem seq_obj {a : Addr} {its : List Value} (h : s.heap.IsList a its.toArray ∨ s.heap.IsTuple a its.toArray) : ∃ ty o n, (ty = "list" ∨ ty = "tuple") ∧ s.heap.get? a = some o ∧ o.cls = .type ty ∧ o.data = .seq its.toArray n := by
  rcases h with ⟨o, h1, h2, n, h3⟩ | ⟨o, h1, h2, n, h3⟩
  · exact ⟨"list", o, n, .inl rfl, h1, h2, h3⟩
  · exact ⟨"tuple", o, n, .inr rfl, h1, h2, h3⟩
/-- iter of a list or a tuple -/
theorem iter_both {prog : Program} {w : World} {A : Around} {E : Value → Shared → Prop} {a : Addr} {its : List Value} {Q : Value → Shared → Prop} (hh : A.handled = none) (hl : s.heap.IsList a its.toArray ∨ s.heap.IsTuple a its.toArray)
    (h : ∀ (s₂ : Shared) (St : Nat → Heap → Prop) (ob : Obj), s₂ = { s with heap := s.heap.push ob } → Walks prog w A s.heap.objs.size [s.heap.objs.size, a] [s.heap.objs.size] its.length (fun i v => its.toArray[i]? = some v) St → St 0 s₂.heap →
      (∀ b ∈ [s.heap.objs.size, a], b < s₂.heap.objs.size) → (∀ h' : Heap, (∀ b o, b ∉ [s.heap.objs.size] → s₂.heap.get? b = some o → h'.get? b = some o) → ∀ b o, s.heap.get? b = some o → h'.get? b = some o) → Q (.ref s.heap.objs.size) s₂) :
    wpAny (model prog w) A (pyIter (.ref a)) Q E s := by
  have fin : ∀ ob : Obj, ∀ h' : Heap, (∀ b o, b ∉ [s.heap.objs.size] → (s.heap.push ob).get? b = some o → h'.get? b = some o) → ∀ b o, s.heap.get? b = some o → h'.get? b = some o := fun ob h' hk b o e => by
    refine hk b o (fun hm => ?_) (Heap.get?_push_of_some _ e)
    rcases List.mem_cons.mp hm with e1 | hm
    · exact absurd (e1 ▸ Heap.lt_size e) (Nat.lt_irrefl _)
    · cases hm
  have bnd : ∀ ob : Obj, a < s.heap.objs.size → ∀ b ∈ [s.heap.objs.size, a], b < (s.heap.push ob).objs.size := fun ob hlt b hb => by
    rw [Heap.size_push]
    rcases List.mem_cons.mp hb with rfl | hb
    · exact Nat.lt_succ_self _
    · rcases List.mem_cons.mp hb with rfl | hb
      · exact Nat.lt_succ_of_lt hlt
      · cases hb
  have hz : its.toArray.size = its.length := List.size_toArray
  rcases hl with hl | hl
  · have hlt : a < s.heap.objs.size := by obtain ⟨_, e, _⟩ := hl; exact Heap.lt_size e
    refine wpAny_pyIter_list hl (h _ _ _ rfl (hz ▸ Walks.list (A := A) hh _ a (Nat.ne_of_lt hlt) its.toArray) ⟨⟨_, Heap.get?_push_size _ rfl, rfl, rfl⟩, hl.push _⟩ (bnd _ hlt) (fin _))
  · have hlt : a < s.heap.objs.size := by obtain ⟨_, e, _⟩ := hl; exact Heap.lt_size e
    refine wpAny_pyIter_tuple hl (h _ _ _ rfl (hz ▸ Walks.tuple (A := A) hh _ a (Nat.ne_of_lt hlt) its.toArray) ⟨⟨_, Heap.get?_push_size _ rfl, rfl, rfl⟩, hl.push _⟩ (bnd _ hlt) (fin _))

/-! ### any, all, sum, max, min of a list or a tuple -/
def rAnyS (K : PySem.W.Frag) : List V → Hp → VK → Prop := fun vs H Q => ∃ (v : V) (bs : List Bool) (c : Bool), vs = [v] ∧ Seq K H v (bs.map V.bl) c ∧ Q (.bl (bs.any id)) H
def rAllS (K : PySem.W.Frag) : List V → Hp → VK → Prop := fun vs H Q => ∃ (v : V) (bs : List Bool) (c : Bool), vs = [v] ∧ Seq K H v (bs.map V.bl) c ∧ Q (.bl (bs.all id)) H
def rSumS (K : PySem.W.Frag) : List V → Hp → VK → Prop := fun vs H Q => ∃ (v : V) (ns : List Int) (c : Bool), vs = [v] ∧ Seq K H v (ns.map V.int) c ∧ Q (.int ns.sum) H
def rMaxS (K : PySem.W.Frag) : List V → Hp → VK → Prop := fun vs H Q => ∃ (v : V) (ns : List Int) (c : Bool), vs = [v] ∧ Seq K H v (ns.map V.int) c ∧ 0 < ns.length ∧ ∀ m, m ∈ ns → (∀ y, y ∈ ns → y ≤ m) → Q (.int m) H
def rMinS (K : PySem.W.Frag) : List V → Hp → VK → Prop := fun vs H Q => ∃ (v : V) (ns : List Int) (c : Bool), vs = [v] ∧ Seq K H v (ns.map V.int) c ∧ 0 < ns.length ∧ ∀ m, m ∈ ns → (∀ y, y ∈ ns → m ≤ y) → Q (.int m) H
theorem cr_anyS (hc : X.calm = true) : CallR X (.builtin "any") (rAnyS X.K) := by
  intro pins s σ H vs us Q I r h
  obtain ⟨v, bs, c, rfl, hs, q⟩ := h
  obtain ⟨a, its, rfl, rv, hz, hl⟩ := hs.obj I
  rw [Vals.ref1 r]
  have hb := rv.bls
  refine call_any_walk (iter_both (I.ok.hd hc) hl fun s₂ St ob e2 W st bn kp => ?_)
  subst e2
  refine ⟨_, _, _, _, _, _, _, rfl, W, st, truth_bools hb, fun h' tk hk => ⟨.bl _, H, I.kept (kp h' hk), ?_, q⟩⟩
  show Value.bool _ = Value.bool _
  rw [← L2.any_range, hb, List.length_map]
theorem cr_allS (hc : X.calm = true) : CallR X (.builtin "all") (rAllS X.K) := by
  intro pins s σ H vs us Q I r h
  obtain ⟨v, bs, c, rfl, hs, q⟩ := h
  obtain ⟨a, its, rfl, rv, hz, hl⟩ := hs.obj I
  rw [Vals.ref1 r]
  have hb := rv.bls
  refine call_all_walk (iter_both (I.ok.hd hc) hl fun s₂ St ob e2 W st bn kp => ?_)
  subst e2
  refine ⟨_, _, _, _, _, _, _, rfl, W, st, truth_bools hb, fun h' tk hk => ⟨.bl _, H, I.kept (kp h' hk), ?_, q⟩⟩
  show Value.bool _ = Value.bool _
  rw [← L2.all_range, hb, List.length_map]
theorem ints_items {its : List Value} {ns : List Int} (hi : IntsAre its ns) : ∃ xs : Array (Int × Tok), its.toArray = intItems xs ∧ xs.toList.map (·.1) = ns ∧ xs.size = its.length := by
  obtain ⟨xs, e⟩ := hi.allInts.items
  have hn : numsOf (intItems xs).toList = ns := by rw [← e]; exact hi.numsOf
  rw [nums_intItems] at hn
  refine ⟨xs, e, hn, ?_⟩
  have h1 := congrArg Array.size e
  simpa [intItems] using h1.symm
theorem cr_sumS (hc : X.calm = true) : CallR X (.builtin "sum") (rSumS X.K) := by
  intro pins s σ H vs us Q I r h
  obtain ⟨v, ns, c, rfl, hs, q⟩ := h
  obtain ⟨a, its, rfl, rv, hz, hl⟩ := hs.obj I
  rw [Vals.ref1 r]
  obtain ⟨xs, e, hn, hx⟩ := ints_items rv.ints
  refine call_sum_walkG (iter_both (I.ok.hd hc) hl fun s₂ St ob e2 W st bn kp => ?_)
  subst e2
  refine ⟨_, _, _, _, _, _, numAt xs, rfl, W, st, bn, (fun i v h => intItems_at (by rw [← e]; exact h)), fun h' tk t' hk => ⟨.int _, H, I.kept (kp h' hk), ⟨t', ?_⟩, q⟩⟩
  rw [preSum_eq, List.take_of_length_le (by rw [List.length_map, Array.length_toList]; omega), hn]
theorem cr_maxS (hc : X.calm = true) : CallR X (.builtin "max") (rMaxS X.K) := by
  intro pins s σ H vs us Q I r h
  obtain ⟨v, ns, c, rfl, hs, hne, q⟩ := h
  obtain ⟨a, its, rfl, rv, hz, hl⟩ := hs.obj I
  rw [Vals.ref1 r]
  obtain ⟨xs, e, hn, hx⟩ := ints_items rv.ints
  have hlen : ns.length = xs.size := by rw [← hn, List.length_map, Array.length_toList]
  refine call_max_walk (iter_both (I.ok.hd hc) hl fun s₂ St ob e2 W st bn kp => ?_)
  subst e2
  refine ⟨_, _, _, _, _, _, _, rfl, W, st, bn, by omega, CmpOf.ints_gt (numAt xs) (fun i v h => intItems_at (by rw [← e]; exact h)), fun v h' tk hP hk => ?_⟩
  obtain ⟨t, rfl⟩ := intItems_at (xs := xs) (by rw [← e]; exact hP)
  obtain ⟨h1, h2⟩ := argBest_gt (numAt xs) (its.length - 1)
  refine ⟨.int _, H, I.kept (kp h' hk), ⟨t, rfl⟩, q _ ?_ fun y hy => ?_⟩
  · rw [numAt_eq, hn]; exact PySem.getD_mem (by omega)
  · obtain ⟨j, hj, rfl⟩ := mem_getD hy
    have z := h2 j (by omega)
    rw [numAt_eq, hn] at z
    exact z
theorem cr_minS (hc : X.calm = true) : CallR X (.builtin "min") (rMinS X.K) := by
  intro pins s σ H vs us Q I r h
  obtain ⟨v, ns, c, rfl, hs, hne, q⟩ := h
  obtain ⟨a, its, rfl, rv, hz, hl⟩ := hs.obj I
  rw [Vals.ref1 r]
  obtain ⟨xs, e, hn, hx⟩ := ints_items rv.ints
  have hlen : ns.length = xs.size := by rw [← hn, List.length_map, Array.length_toList]
  refine call_min_walk (iter_both (I.ok.hd hc) hl fun s₂ St ob e2 W st bn kp => ?_)
  subst e2
  refine ⟨_, _, _, _, _, _, _, rfl, W, st, bn, by omega, CmpOf.ints_lt (numAt xs) (fun i v h => intItems_at (by rw [← e]; exact h)), fun v h' tk hP hk => ?_⟩
  obtain ⟨t, rfl⟩ := intItems_at (xs := xs) (by rw [← e]; exact hP)
  obtain ⟨h1, h2⟩ := argBest_lt (numAt xs) (its.length - 1)
  refine ⟨.int _, H, I.kept (kp h' hk), ⟨t, rfl⟩, q _ ?_ fun y hy => ?_⟩
  · rw [numAt_eq, hn]; exact PySem.getD_mem (by omega)
  · obtain ⟨j, hj, rfl⟩ := mem_getD hy
    have z := h2 j (by omega)
    rw [numAt_eq xs j, hn] at z
    exact z
end
end Dl
end

section
set_option Elab.async false
set_option linter.all false
set_option maxRecDepth 100000
set_option maxHeartbeats 1000000
/-! D10: sorted; what is held alone is let go. -/
namespace Dl
open PySem PySem.Spec PyProof.Rows L2

/-! ### letting go -/
section
variable {T : Pg} {ad : Ad} {b : List Nat} {s : L2.St} {e : Env} {S S0 : Sto} {H H1 : Hp} {mu mu1 : List Addr} {nu nu1 : Addr → Prop}
mutual
theorem RepO.notmu : ∀ {v : V} (d : D) {fp : List Addr}, RepO T ad H mu nu v d fp → ∀ a, a ∈ fp → a ∉ mu
  | _, .non, _, h, _, m => by cases h with | of r => cases m
  | _, .bl _, _, h, _, m => by cases h with | of r => cases m
  | _, .int _, _, h, _, m => by cases h with | of r => cases m
  | _, .str _, _, h, _, m => by cases h with | of r => cases m
  | _, .tup ds, _, h, a, m => by
    cases h with
    | of r => cases m
    | tup n e r => exact RepOL.notmu ds r a m
  | _, .lst o ds, _, h, a, m => by
    cases h with
    | of r => cases m
    | lst n e r =>
      rcases List.mem_cons.mp m with z | m
      · rw [z]; exact n
      · exact RepOL.notmu ds r a m
  | _, .dic o ks ds, _, h, a, m => by
    cases h with
    | of r => cases m
    | dic n e r =>
      rcases List.mem_cons.mp m with z | m
      · rw [z]; exact n
      · exact RepOL.notmu ds r a m
  | _, .set _ _, _, h, _, m => by cases h with | of r => cases m
  | _, .ins o c ds, _, h, a, m => by
    cases h with
    | of r => cases m
    | ins hI n e l r =>
      rcases List.mem_cons.mp m with z | m
      · rw [z]; exact n
      · exact RepOL.notmu ds r a m
  | _, .ref _, _, h, _, m => by cases h with | of r => cases m
  | _, .fn _, _, h, _, m => by cases h with | of r => cases m
  | _, .cls _, _, h, _, m => by cases h with | of r => cases m
  | _, .exc _ _, _, h, _, m => by cases h with | of r => cases m
theorem RepOL.notmu : ∀ {vs : List V} (ds : List D) {fp : List Addr}, RepOL T ad H mu nu vs ds fp → ∀ a, a ∈ fp → a ∉ mu
  | _, [], _, h, _, m => by cases h; cases m
  | _, d :: ds, _, h, a, m => by
    cases h with
    | cons h1 h2 =>
      rcases List.mem_append.mp m with m | m
      · exact RepO.notmu d h1 a m
      · exact RepOL.notmu ds h2 a m
end
def less (nu : Addr → Prop) (fp : List Addr) : Addr → Prop := fun a => nu a ∧ a ∉ fp
theorem Stp.less {fp : List Addr} (x : Stp H mu nu H1 mu1 nu1) (tk : ∀ a, nu a → ∃ o, H a = some o) (fr : ∀ a, a ∈ fp → H a = none) : Stp H mu nu H1 mu1 (less nu1 fp) where
  keep := fun a o h n => let ⟨h1, n1, z⟩ := x.keep a o h n; ⟨h1, n1, fun q => z q.1⟩
  pre := x.pre
  grow := fun a z => ⟨x.grow a z, fun m => by
    obtain ⟨o, h⟩ := tk a z
    rw [fr a m] at h
    cases h⟩
  trk := x.trk
  new := x.new
theorem Sta.less {fp : List Addr} (st : Sta T ad b H mu nu s e S) (nm : ∀ a, a ∈ fp → a ∉ mu) : Sta T ad b H mu (less nu fp) s e S where
  len := st.len
  env := fun i d h => by
    obtain ⟨v, h1, r⟩ := st.env i d h
    exact ⟨v, h1, r.keeps (.less fun a z => z.1)⟩
  num := st.num
  cel := fun n a c h1 h2 => by
    cases st.cel n a c h1 h2 with
    | lst q r => exact .lst q (r.keeps (.less fun a z => z.1))
    | dic q r => exact .dic q (r.keeps (.less fun a z => z.1))
    | ins hI q l r => exact .ins hI q l (r.keeps (.less fun a z => z.1))
  nd := st.nd
  sub := fun a m => ⟨st.sub a m, fun z => nm a z m⟩
  trk := fun a z => st.trk a z.1
  old := st.old
  bse := st.bse
/-- values in flight land -/
theorem land {vs : List V} {ds : List D} {fp : List Addr} (x : Stp H mu nu H1 mu1 nu1) (st0 : Sta T ad b H mu nu s e S0) (st : Sta T ad b H1 mu1 nu1 s e S) (ro : RepOL T ad H1 mu1 nu1 vs ds fp) (fr : ∀ a, a ∈ fp → H a = none) :
    Stp H mu nu H1 mu1 (less nu1 fp) ∧ Sta T ad b H1 mu1 (less nu1 fp) s e S ∧ RepL T ad H1 mu1 (less nu1 fp) vs (frzL ds) :=
  ⟨x.less st0.trk fr, st.less (ro.notmu ds), ro.frz (fun a z => z.1) ds fun a m z => z.2 m⟩
theorem land1 {v : V} {d : D} {fp : List Addr} (x : Stp H mu nu H1 mu1 nu1) (st0 : Sta T ad b H mu nu s e S0) (st : Sta T ad b H1 mu1 nu1 s e S) (ro : RepO T ad H1 mu1 nu1 v d fp) (fr : ∀ a, a ∈ fp → H a = none) :
    Stp H mu nu H1 mu1 (less nu1 fp) ∧ Sta T ad b H1 mu1 (less nu1 fp) s e S ∧ Rep T ad H1 mu1 (less nu1 fp) v (frz d) :=
  ⟨x.less st0.trk fr, st.less (ro.notmu d), ro.frz (fun a z => z.1) d fun a m z => z.2 m⟩
end

/-! ### sorting -/
theorem insI_perm (x : Int) : ∀ l : List Int, (insI x l).Perm (x :: l)
  | [] => .refl _
  | y :: l => by
    unfold insI
    split
    · exact .refl _
    · exact ((insI_perm x l).cons y).trans (.swap x y l)
theorem sortI_perm : ∀ l : List Int, (sortI l).Perm l
  | [] => .refl _
  | x :: l => (insI_perm x (sortI l)).trans ((sortI_perm l).cons x)
theorem insI_sorted (x : Int) : ∀ {l : List Int}, l.Pairwise (· ≤ ·) → (insI x l).Pairwise (· ≤ ·)
  | [], _ => List.pairwise_singleton _ _
  | y :: l, h => by
    unfold insI
    have h' := List.pairwise_cons.mp h
    split
    · rename_i hx
      refine List.pairwise_cons.mpr ⟨fun a m => ?_, h⟩
      rcases List.mem_cons.mp m with z | m
      · rw [z]; exact hx
      · exact Int.le_trans hx (h'.1 a m)
    · rename_i hx
      refine List.pairwise_cons.mpr ⟨fun a m => ?_, insI_sorted x h'.2⟩
      rcases List.mem_cons.mp ((insI_perm x l).mem_iff.mp m) with z | m
      · rw [z]; omega
      · exact h'.1 a m
theorem sortI_sorted : ∀ l : List Int, (sortI l).Pairwise (· ≤ ·)
  | [] => .nil
  | x :: l => insI_sorted x (sortI_sorted l)
theorem sorted_unique : ∀ {a c : List Int}, a.Perm c → a.Pairwise (· ≤ ·) → c.Pairwise (· ≤ ·) → a = c
  | [], c, h, _, _ => (List.nil_perm.mp h).symm
  | x :: a, c, h, ha, hc => by
    cases c with
    | nil => exact absurd h.symm (by simp)
    | cons y c =>
      have h1 := List.pairwise_cons.mp ha
      have h2 := List.pairwise_cons.mp hc
      have e : x = y := by
        have m1 : x ∈ y :: c := h.mem_iff.mp List.mem_cons_self
        have m2 : y ∈ x :: a := h.mem_iff.mpr List.mem_cons_self
        rcases List.mem_cons.mp m1 with z | m1
        · exact z
        rcases List.mem_cons.mp m2 with z | m2
        · exact z.symm
        exact Int.le_antisymm (h1.1 y m2) (h2.1 x m1)
      subst e
      rw [sorted_unique (List.perm_cons x |>.mp h) h1.2 h2.2]
section
variable {prog : Program} {w : World} {A : Around} {E : Value → Shared → Prop} {s : Shared}
/-- sorted of a list or a tuple of ints -/
theorem sorted_both {l : Addr} {vs : List Value} {ns : List Int} {Q : Value → Shared → Prop} (hl : s.heap.IsList l vs.toArray ∨ s.heap.IsTuple l vs.toArray) (hi : IntsAre vs ns) (hz : vs.length ≤ sizeLine)
    (h : ∀ (h' : Heap) (p : Addr) (out : List Value) (ep : Nat), IntsAre out (sortI ns) → s.heap.get? p = none → (∀ b o, s.heap.get? b = some o → h'.get? b = some o) → h'.get? p = some (seqObj "list" out.toArray ep) → Q (.ref p) { s with heap := h' }) :
    wpAny (model prog w) A (call (.builtin "sorted") [.ref l]) Q E s := by
  refine Calls.call_function_entry kind_sorted plain_sorted entry_sorted (args_sorted1 _) ?_
  unfold Builtin.«sorted»
  refine wpAny_bind (m := checkCount "sorted" 1 1 _) (wpAny_pure ?_)
  obtain ⟨ty, o, n, hty, ho, hc, hd⟩ := seq_obj hl
  refine wpAny_bind (wpAny_collect_seq l hty ho hc hd (fun h1 k1 => ?_) (by rw [List.size_toArray]; exact hz))
  refine wpAny_bind (wpAny_newList ?_ hz)
  have hoL : (h1.push (seqObj "list" vs.toArray 0)).get? h1.objs.size = some (seqObj "list" vs.toArray 0) := Heap.get?_push_size _ rfl
  have k2 : ∀ b o, s.heap.get? b = some o → (h1.push (seqObj "list" vs.toArray 0)).get? b = some o := fun b o q => Heap.get?_push_of_some _ (k1 b o q)
  have hnew : s.heap.get? h1.objs.size = none := by
    cases e : s.heap.get? h1.objs.size with
    | none => rfl
    | some o => exact absurd (Heap.lt_size (k1 _ o e)) (Nat.lt_irrefl _)
  refine wpAny_bind (wpAny_holding (wpAny_call_entry slot_list_sort ⟨_, hoL, rfl⟩ entry_list_sort (SrtO.list_sort_ord SrtO.swo_int hoL hz (fun h2 => SrtO.ints_sortable hi h2) fun out hs hb => ⟨_, rfl, ?_⟩) (args_list_sort _)))
  refine wpAny_pure ⟨_, rfl, ?_⟩
  obtain ⟨i1, i2, i3⟩ := SrtO.ints_out hi hs hb
  have e : out.map SrtO.iv = sortI ns := sorted_unique (i2.trans (sortI_perm ns).symm) i3 (sortI_sorted ns)
  obtain ⟨ep, he'⟩ := PyProof.Rows.sortedHeap_at (vs := vs) (out := out.toArray) hoL
  exact h _ _ out ep (e ▸ i1) hnew (fun b o q => by
    have hb : b < h1.objs.size := Heap.lt_size (k1 b o q)
    rw [PyProof.Rows.sortedHeap_old (Nat.ne_of_lt hb) (by rw [Heap.size_push]; exact Nat.lt_succ_of_lt hb)]
    exact k2 b o q) he'
end
theorem objok_there {P : Program} {w : World} {H : Hp} {h : Heap} {a : Addr} {o : HO} (x : ObjOk P w H h a o) : ∃ u, h.get? a = some u := by
  cases o with
  | lst xs => obtain ⟨_, _, _, _, e⟩ := x; exact ⟨_, e⟩
  | tup xs => obtain ⟨_, _, _, o, e, _⟩ := x; exact ⟨_, e⟩
  | dK kvs => obtain ⟨_, _, _, _, o, _, _, e, _⟩ := x; exact ⟨_, e⟩
  | dT kvs => obtain ⟨_, _, _, _, o, _, _, e, _⟩ := x; exact ⟨_, e⟩
  | set S n => obtain ⟨o, _, _, _, e, _⟩ := x; exact ⟨_, e⟩
  | ins C dx fs => obtain ⟨_, _, _, e, _⟩ := x; exact ⟨_, e⟩
  | own y => obtain ⟨_, e⟩ := x; exact ⟨_, e⟩
  | xd fs => obtain ⟨_, ⟨_, _, _, e, _⟩, _⟩ := x; exact ⟨_, e⟩
  | rng lo hi => obtain ⟨_, _, _, e⟩ := x; exact ⟨_, e⟩
  | frz ob u => obtain ⟨e, _⟩ := x; exact ⟨_, e⟩
  | tbl ps => exact ⟨_, (show h.get? a = some _ from x)⟩
  | met f y => exact ⟨_, (show h.get? a = some _ from x)⟩
  | ext φ => obtain ⟨_, ⟨_, e⟩, _⟩ := x; exact ⟨_, e⟩
theorem fresh_of {P : Program} {w : World} {H : Hp} {h : Heap} {a : Addr} (x : HOk P w H h) (e : h.get? a = none) : H a = none := by
  cases q : H a with
  | none => rfl
  | some o =>
    obtain ⟨u, z⟩ := objok_there (x a o q)
    rw [e] at z
    cases z
def rSortedS2 (K : PySem.W.Frag) : List V → Hp → VK → Prop := fun vs H Q => ∃ (v : V) (ns : List Int) (c : Bool), vs = [v] ∧ Seq K H v (ns.map V.int) c ∧ ∀ p, H p = none → Q (.ref p) (upd H p (.lst ((sortI ns).map V.int)))
theorem cr_sortedS2 {X : Cx} : CallR X (.builtin "sorted") (rSortedS2 X.K) := by
  intro pins s σ H vs us Q I r h
  obtain ⟨v, ns, c, rfl, hs, q⟩ := h
  obtain ⟨a, its, rfl, rv, hz, hl⟩ := hs.obj I
  rw [Vals.ref1 r]
  have hi := rv.ints
  refine sorted_both hl hi (by rw [← rv.length]; exact hz) fun h' p out ep io hp kp he => ?_
  have hlen : ((sortI ns).map V.int).length ≤ sizeLine := by
    rw [List.length_map, (sortI_perm ns).length_eq]
    rw [List.length_map] at hz
    exact hz
  exact ⟨.ref p, upd H p (.lst ((sortI ns).map V.int)), I.laidN (t' := s.toks) kp hp (fresh_of I.hok hp) ⟨hlen, out, ep, vals_of_ints io, he⟩, rfl, q p (fresh_of I.hok hp)⟩
end Dl
end

section
set_option Elab.async false
set_option linter.all false
set_option maxRecDepth 100000
set_option maxHeartbeats 1000000
/-! D11: repr. -/
namespace Dl
open PySem PySem.Spec PyProof.Rows L2

/-- what is asked of a body's context -/
structure Cok (X : Cx) : Prop where
  gd : X.A.guards = some []
  un : X.A.units + 200 < cLine
  sys : ∃ o, X.base.get? sysModules = some o

theorem toPyL_len : ∀ l : List D, (toPyL l).length = l.length
  | [] => rfl
  | x :: l => by rw [toPyL, List.length_cons, List.length_cons, toPyL_len l]
theorem zip_fst {α β : Type} : ∀ (a : List α) (c : List β), a.length = c.length → (a.zip c).map (·.1) = a
  | [], _, _ => rfl
  | x :: a, [], h => by simp at h
  | x :: a, y :: c, h => by rw [List.zip_cons_cons, List.map_cons, zip_fst a c (by simpa using h)]
theorem zip_snd {α β : Type} : ∀ (a : List α) (c : List β), a.length = c.length → (a.zip c).map (·.2) = c
  | [], [], _ => rfl
  | [], y :: c, h => by simp at h
  | x :: a, [], h => by simp at h
  | x :: a, y :: c, h => by rw [List.zip_cons_cons, List.map_cons, zip_snd a c (by simpa using h)]
theorem depthKv_zip : ∀ (n : Nat) (a c : List PyData), PyData.depthAll a ≤ n → PyData.depthAll c ≤ n → PyData.depthKv (a.zip c) ≤ n
  | n, [], c, _, _ => by simp [PyData.depthKv]
  | n, x :: a, [], _, _ => by simp [PyData.depthKv]
  | n, x :: a, y :: c, h1, h2 => by
    simp only [PyData.depthAll] at h1 h2
    simp only [List.zip_cons_cons, PyData.depthKv]
    have := depthKv_zip n a c (by omega) (by omega)
    omega
theorem showKv_zip : ∀ (a c : List PyData), PyData.showableAll a = true → PyData.showableAll c = true → PyData.showableKv (a.zip c) = true
  | [], c, _, _ => by simp [PyData.showableKv]
  | x :: a, [], _, _ => by simp [PyData.showableKv]
  | x :: a, y :: c, h1, h2 => by
    simp only [PyData.showableAll, Bool.and_eq_true] at h1 h2
    simp only [List.zip_cons_cons, PyData.showableKv, Bool.and_eq_true]
    exact ⟨⟨h1.1, h2.1⟩, showKv_zip a c h1.2 h2.2⟩
mutual
theorem shD_ok : ∀ (n : Nat) (d : D), shD n d = true → (toPy d).showable = true ∧ (toPy d).depth ≤ n
  | n, .non, _ => by simp [toPy, PyData.showable, PyData.depth]
  | n, .bl _, _ => by simp [toPy, PyData.showable, PyData.depth]
  | n, .int i, h => by
    have h' : decide (i.natAbs.log2 < 1920) = true := by cases n <;> exact h
    simp [toPy, PyData.showable, PyData.depth, of_decide_eq_true h']
  | n, .str x, h => by simp [toPy, PyData.showable, PyData.depth]
  | 0, .tup _, h => absurd (show false = true from h) Bool.false_ne_true
  | n + 1, .tup xs, h => by
    have q := shL_ok n xs h
    simp only [toPy, PyData.showable, PyData.depth]
    exact ⟨q.1, Nat.succ_le_succ q.2⟩
  | 0, .lst _ _, h => absurd (show false = true from h) Bool.false_ne_true
  | n + 1, .lst _ xs, h => by
    have q := shL_ok n xs h
    simp only [toPy, PyData.showable, PyData.depth]
    exact ⟨q.1, Nat.succ_le_succ q.2⟩
  | 0, .dic _ _ _, h => absurd (show false = true from h) Bool.false_ne_true
  | n + 1, .dic _ ks vs, h => by
    have h' : (shL n ks = true ∧ shL n vs = true) ∧ (ks.length == vs.length) = true := by simpa only [shD, Bool.and_eq_true] using h
    have q := shL_ok n ks h'.1.1
    have q2 := shL_ok n vs h'.1.2
    simp only [toPy, PyData.showable, PyData.depth]
    exact ⟨showKv_zip _ _ q.1 q2.1, Nat.succ_le_succ (depthKv_zip _ _ _ q.2 q2.2)⟩
  | n, .set _ _, h => absurd (show false = true by cases n <;> exact h) Bool.false_ne_true
  | n, .ins _ _ _, h => absurd (show false = true by cases n <;> exact h) Bool.false_ne_true
  | n, .ref _, h => absurd (show false = true by cases n <;> exact h) Bool.false_ne_true
  | n, .fn _, h => absurd (show false = true by cases n <;> exact h) Bool.false_ne_true
  | n, .cls _, h => absurd (show false = true by cases n <;> exact h) Bool.false_ne_true
  | n, .exc _ _, h => absurd (show false = true by cases n <;> exact h) Bool.false_ne_true
theorem shL_ok : ∀ (n : Nat) (ds : List D), shL n ds = true → PyData.showableAll (toPyL ds) = true ∧ PyData.depthAll (toPyL ds) ≤ n
  | n, [], _ => by simp [toPyL, PyData.showableAll, PyData.depthAll]
  | n, d :: ds, h => by
    have h' : shD n d = true ∧ shL n ds = true := Bool.and_eq_true_iff.mp (by simpa only [shL] using h)
    have q1 := shD_ok n d h'.1
    have q2 := shL_ok n ds h'.2
    simp only [toPyL, PyData.showableAll, PyData.depthAll, q1.1, q2.1, Bool.and_self, true_and]
    exact Nat.max_le.mpr ⟨q1.2, q2.2⟩
end
section
variable {T : Pg} {ad : Ad} {b : List Nat} {X : Cx} {pins : List (Addr × Obj)} {σ : L2.St}
variable {s : L2.St} {e : Env} {S : Sto} {H : Hp} {mu : List Addr} {nu : Addr → Prop} {sh : Shared}
theorem not_sys {a : Addr} {o : HO} (ck : Cok X) (I : Inv X pins σ H sh) (h : H a = some o) : a ≠ sysModules := fun z => by
  obtain ⟨u, hu⟩ := ck.sys
  rw [z, (I.bs _ _ hu).2] at h
  cases h
theorem not_sysR {a : Addr} {o : HO} (ck : Cok X) (I : Inv X pins σ H sh) (h : Rd H a o) : a ≠ sysModules := by
  rcases h with h | ⟨_, h⟩
  · exact not_sys ck I h
  · exact not_sys ck I h
theorem keys_read {h : Heap} : ∀ {es : List DictEntry} {kvs : List (Key × Value)}, PySem.Pairs (mixKind X.prog X.w) es kvs → ∃ as, ReadsAll h (es.map (·.key)) (toPyL (kvs.map fun p => keyD p.1)) as ∧ sysModules ∉ as ∧ (es.map (·.val)) = kvs.map (·.2)
  | _, _, .nil => ⟨_, .nil, List.not_mem_nil, rfl⟩
  | _, _, .cons hk hv t => by
    obtain ⟨as, r, n, ev⟩ := keys_read (h := h) t
    rcases keyIs_shape hk with ⟨i, t, e1, e2⟩ | ⟨x, t, e1, e2⟩
    · refine ⟨[] ++ as, ?_, n, ?_⟩
      · simp only [List.map_cons, toPyL, e1, e2, keyD, toPy]
        exact .cons (.int i t) r
      · simp only [List.map_cons, ev, hv]
    · refine ⟨[] ++ as, ?_, n, ?_⟩
      · simp only [List.map_cons, toPyL, e1, e2, keyD, toPy]
        exact .cons (.str x t) r
      · simp only [List.map_cons, ev, hv]
theorem kv_snd : ∀ {kvs : List (Key × V)} {vs : List (Key × Value)}, KV kvs vs → Vals (kvs.map (·.2)) (vs.map (·.2)) ∧ (kvs.map fun p => keyD p.1) = (vs.map fun p => keyD p.1)
  | _, _, .nil => ⟨.nil, rfl⟩
  | _, _, .cons h t => ⟨.cons h.2 (kv_snd t).1, by simp only [List.map_cons, h.1, (kv_snd t).2]⟩
theorem shDic {n : Nat} {o : Bool} {ks vs : List D} (h : shD (n + 1) (.dic o ks vs) = true) : shL n vs = true := by
  have h' : (shL n ks = true ∧ shL n vs = true) ∧ (ks.length == vs.length) = true := by simpa only [shD, Bool.and_eq_true] using h
  exact h'.1.2
/-- a dict's reading from its values' -/
theorem dic_read {a : Addr} {kvs : List (Key × V)} {ps : List PyData} (ck : Cok X) (I : Inv X pins σ H sh) (h : H a = some (.dK kvs)) (hv : ∀ us, Vals (kvs.map (·.2)) us → ∃ as, ReadsAll sh.heap us ps as ∧ sysModules ∉ as) (hl : ps.length = kvs.length) :
    ∃ as, Reads sh.heap (.ref a) (.dict ((toPyL (kvs.map fun p => keyD p.1)).zip ps)) as ∧ sysModules ∉ as := by
  obtain ⟨_, _, vs, kv, o, es, ep, h1, h2, h3, _, h5, _⟩ := I.hok a _ h
  obtain ⟨k1, k2⟩ := kv_snd kv
  obtain ⟨as, r1, n1, e1⟩ := keys_read (h := sh.heap) h5
  obtain ⟨bs, r2, n2⟩ := hv _ k1
  have hl' : (toPyL (kvs.map fun p => keyD p.1)).length = ps.length := by rw [toPyL_len, List.length_map, hl]
  refine ⟨a :: as ++ bs, .dict h1 h2.1 h3 (kvs := (toPyL (kvs.map fun p => keyD p.1)).zip ps) ?_ ?_, fun m => ?_⟩
  · rw [zip_fst _ _ hl', k2]
    exact r1
  · rw [zip_snd _ _ hl', e1]
    exact r2
  · rcases List.mem_append.mp m with m | m
    · rcases List.mem_cons.mp m with m | m
      · exact not_sys ck I h m.symm
      · exact n1 m
    · exact n2 m
theorem lst_read {a : Addr} {vs : List V} {ps : List PyData} (ck : Cok X) (I : Inv X pins σ H sh) (h : Rd H a (.lst vs)) (hv : ∀ us, Vals vs us → ∃ as, ReadsAll sh.heap us ps as ∧ sysModules ∉ as) :
    ∃ as, Reads sh.heap (.ref a) (.list ps) as ∧ sysModules ∉ as := by
  obtain ⟨_, its, n, rv, e⟩ := h.ok I.hok
  obtain ⟨as, r, m⟩ := hv its rv
  exact ⟨a :: as, .list e rfl rfl r, fun z => (List.mem_cons.mp z).elim (fun z => not_sysR ck I h z.symm) m⟩
theorem tup_read {a : Addr} {vs : List V} {ps : List PyData} (I : Inv X pins σ H sh) (h : TpH H a vs) (hv : ∀ us, Vals vs us → ∃ as, ReadsAll sh.heap us ps as ∧ sysModules ∉ as) :
    ∃ as, Reads sh.heap (.ref a) (.tuple ps) as ∧ sysModules ∉ as := by
  obtain ⟨_, its, rv, o, h1, h2, n, h3⟩ := h.rd.ok I.hok
  obtain ⟨as, r, m⟩ := hv its rv
  exact ⟨as, .tuple h1 h2 h3 r, m⟩
mutual
theorem rdD_ok (ck : Cok X) (I : Inv X pins σ H sh) : ∀ (n : Nat) (d : D) {v : V} {u : Value} {fp : List Addr}, RepO T ad H mu nu v d fp → shD n d = true → RelV v u → ∃ as, Reads sh.heap u (toPy d) as ∧ sysModules ∉ as
  | n, .non, _, _, _, r, _, q => by
    rw [r.non.1] at q; cases q; exact ⟨_, .none, List.not_mem_nil⟩
  | n, .bl b, _, _, _, r, _, q => by
    rw [r.bl.1] at q; cases q; exact ⟨_, .bool b, List.not_mem_nil⟩
  | n, .int i, _, _, _, r, _, q => by
    rw [r.int.1] at q; obtain ⟨t, rfl⟩ := q; exact ⟨_, .int i t, List.not_mem_nil⟩
  | n, .str x, _, _, _, r, _, q => by
    rw [r.str.1] at q; obtain ⟨t, rfl⟩ := q; exact ⟨_, .str x t, List.not_mem_nil⟩
  | 0, .tup _, _, _, _, _, h, _ => absurd (show false = true from h) Bool.false_ne_true
  | n + 1, .tup xs, _, _, _, r, h, q => by
    obtain ⟨a, vs, rfl, _, ha, rl⟩ := r.tup_
    cases q
    exact tup_read I ha fun us rv => rdL_ok ck I n xs rl h rv
  | 0, .lst _ _, _, _, _, _, h, _ => absurd (show false = true from h) Bool.false_ne_true
  | n + 1, .lst _ xs, _, _, _, r, h, q => by
    obtain ⟨a, vs, gp, rfl, ha, rl, _, _⟩ := r.lst_
    cases q
    exact lst_read ck I ha fun us rv => rdL_ok ck I n xs rl h rv
  | 0, .dic _ _ _, _, _, _, _, h, _ => absurd (show false = true from h) Bool.false_ne_true
  | n + 1, .dic _ ks xs, _, _, _, r, h, q => by
    have h' : (shL n ks = true ∧ shL n xs = true) ∧ (ks.length == xs.length) = true := by simpa only [shD, Bool.and_eq_true] using h
    cases r with
    | of r =>
      cases r with
      | dic hn ha rl =>
        cases q
        exact dic_read ck I ha (fun us rv => rdL_ok ck I n xs (Rep.ofL _ rl) h'.1.2 rv) (by rw [toPyL_len, ← rl.length, List.length_map])
    | dic hn ha rl =>
      cases q
      exact dic_read ck I ha (fun us rv => rdL_ok ck I n xs rl h'.1.2 rv) (by rw [toPyL_len, ← rl.length, List.length_map])
  | n, .set _ _, _, _, _, _, h, _ => absurd (show false = true by cases n <;> exact h) Bool.false_ne_true
  | n, .ins _ _ _, _, _, _, _, h, _ => absurd (show false = true by cases n <;> exact h) Bool.false_ne_true
  | n, .ref _, _, _, _, _, h, _ => absurd (show false = true by cases n <;> exact h) Bool.false_ne_true
  | n, .fn _, _, _, _, _, h, _ => absurd (show false = true by cases n <;> exact h) Bool.false_ne_true
  | n, .cls _, _, _, _, _, h, _ => absurd (show false = true by cases n <;> exact h) Bool.false_ne_true
  | n, .exc _ _, _, _, _, _, h, _ => absurd (show false = true by cases n <;> exact h) Bool.false_ne_true
theorem rdL_ok (ck : Cok X) (I : Inv X pins σ H sh) : ∀ (n : Nat) (ds : List D) {vs : List V} {us : List Value} {fp : List Addr}, RepOL T ad H mu nu vs ds fp → shL n ds = true → Vals vs us → ∃ as, ReadsAll sh.heap us (toPyL ds) as ∧ sysModules ∉ as
  | n, [], _, _, _, r, _, q => by
    cases r; cases q; exact ⟨_, .nil, List.not_mem_nil⟩
  | n, d :: ds, _, _, _, r, h, q => by
    have h1 : shD n d = true ∧ shL n ds = true := Bool.and_eq_true_iff.mp (by simpa only [shL] using h)
    cases r with
    | cons r1 r2 =>
      cases q with
      | cons q1 q2 =>
        obtain ⟨as, a1, a2⟩ := rdD_ok ck I n d r1 h1.1 q1
        obtain ⟨bs, b1, b2⟩ := rdL_ok ck I n ds r2 h1.2 q2
        exact ⟨_, .cons a1 b1, fun m => (List.mem_append.mp m).elim a2 b2⟩
end
theorem snapRL_ok (f : Nat) (ih : ∀ (n : Nat) (d : D) {v : V} {u : Value} {fp : List Addr}, RepO T ad H mu nu v d fp → shD n (snapS S f d) = true → RelV v u → ∃ as, Reads sh.heap u (toPy (snapS S f d)) as ∧ sysModules ∉ as) :
    ∀ (n : Nat) (ds : List D) {vs : List V} {us : List Value} {fp : List Addr}, RepOL T ad H mu nu vs ds fp → shL n (ds.map (snapS S f)) = true → Vals vs us → ∃ as, ReadsAll sh.heap us (toPyL (ds.map (snapS S f))) as ∧ sysModules ∉ as
  | n, [], _, _, _, r, _, q => by
    cases r; cases q; exact ⟨_, .nil, List.not_mem_nil⟩
  | n, d :: ds, _, _, _, r, h, q => by
    have h1 : shD n (snapS S f d) = true ∧ shL n (ds.map (snapS S f)) = true := Bool.and_eq_true_iff.mp (by simpa only [List.map_cons, shL] using h)
    cases r with
    | cons r1 r2 =>
      cases q with
      | cons q1 q2 =>
        obtain ⟨as, a1, a2⟩ := ih n d r1 h1.1 q1
        obtain ⟨bs, b1, b2⟩ := snapRL_ok f ih n ds r2 h1.2 q2
        exact ⟨_, .cons a1 b1, fun m => (List.mem_append.mp m).elim a2 b2⟩
theorem snapS_ok (ck : Cok X) (I : Inv X pins σ H sh) (st : Sta T ad b H mu nu s e S) : ∀ (f n : Nat) (d : D) {v : V} {u : Value} {fp : List Addr}, RepO T ad H mu nu v d fp → shD n (snapS S f d) = true → RelV v u → ∃ as, Reads sh.heap u (toPy (snapS S f d)) as ∧ sysModules ∉ as
  | 0, n, d, _, _, _, r, h, q => rdD_ok ck I n d r h q
  | f + 1, n, d, v, u, fp, r, h, q => by
    have ih := fun n d {v u fp} => @snapS_ok ck I st f n d v u fp
    cases d with
    | ref k =>
      obtain ⟨a, rfl, rfl, ha⟩ := r.ref
      cases q
      simp only [snapS] at h ⊢
      split at h
      · rename_i o xs hk
        cases st.cel k a _ ha hk with
        | lst q rl =>
          cases n with
          | zero => exact absurd (show false = true from h) Bool.false_ne_true
          | succ n => exact lst_read ck I (.inl q) fun us rv => snapRL_ok f ih n xs (Rep.ofL _ rl) h rv
      · rename_i o ks xs hk
        cases st.cel k a _ ha hk with
        | dic q rl =>
          cases n with
          | zero => exact absurd (show false = true from h) Bool.false_ne_true
          | succ n =>
            have h' := shDic h
            exact dic_read ck I q (fun us rv => snapRL_ok f ih n xs (Rep.ofL _ rl) h' rv) (by rw [toPyL_len, List.length_map, ← rl.length, List.length_map])
      · exact absurd (show false = true by cases n <;> exact h) Bool.false_ne_true
    | tup xs =>
      simp only [snapS] at h ⊢
      cases n with
      | zero => exact absurd (show false = true from h) Bool.false_ne_true
      | succ n =>
        obtain ⟨a, vs, rfl, _, ha, rl⟩ := r.tup_
        cases q
        exact tup_read I ha fun us rv => snapRL_ok f ih n xs rl h rv
    | lst o xs =>
      simp only [snapS] at h ⊢
      cases n with
      | zero => exact absurd (show false = true from h) Bool.false_ne_true
      | succ n =>
        obtain ⟨a, vs, gp, rfl, ha, rl, _, _⟩ := r.lst_
        cases q
        exact lst_read ck I ha fun us rv => snapRL_ok f ih n xs rl h rv
    | dic o ks xs =>
      simp only [snapS] at h ⊢
      cases n with
      | zero => exact absurd (show false = true from h) Bool.false_ne_true
      | succ n =>
        have h' := shDic h
        cases r with
        | of r =>
          cases r with
          | dic hn ha rl =>
            cases q
            exact dic_read ck I ha (fun us rv => snapRL_ok f ih n xs (Rep.ofL _ rl) h' rv) (by rw [toPyL_len, List.length_map, ← rl.length, List.length_map])
        | dic hn ha rl =>
          cases q
          exact dic_read ck I ha (fun us rv => snapRL_ok f ih n xs rl h' rv) (by rw [toPyL_len, List.length_map, ← rl.length, List.length_map])
    | _ => exact rdD_ok ck I n _ r h q
/-- repr's answer -/
def rRepr (T : Pg) (ad : Ad) : List V → Hp → VK → Prop := fun vs H Q => ∃ (v : V) (d p : D) (fp : List Addr) (b : List Nat) (s : L2.St) (e : Env) (S : Sto) (mu : List Addr) (nu : Addr → Prop), vs = [v] ∧ Sta T ad b H mu nu s e S ∧ RepO T ad H mu nu v d fp ∧ normS S d = some p ∧ (PyData.shown (toPy p)).length ≤ sizeLine ∧ Q (.str (PyData.shown (toPy p))) H
theorem cr_repr (ck : Cok X) : CallR X (.builtin "repr") (rRepr T ad) := by
  intro pins σ0 σ H vs us Q I r h
  obtain ⟨v, d, p, fp, b, s, e, S, mu, nu, rfl, st, ro, hn, hz, q⟩ := h
  obtain ⟨u, rfl, rx⟩ := vals1 r
  have key : shD 60 p = true ∧ ∃ as, Reads σ0.heap u (toPy p) as ∧ sysModules ∉ as := by
    unfold normS at hn
    split at hn
    · rename_i ho
      cases hn
      exact ⟨ho, rdD_ok ck I 60 d ro ho rx⟩
    · dsimp only at hn
      split at hn
      · rename_i ho
        cases hn
        exact ⟨ho, snapS_ok ck I st 8 60 d ro ho rx⟩
      · cases hn
  obtain ⟨hs, as, rd, ns⟩ := key
  obtain ⟨h1, h2⟩ := shD_ok 60 p hs
  generalize hp : toPy p = pd at *
  have un := ck.un
  cases rd with
  | none => exact PySem.P.repr_of_none ⟨.str _, H, I.tok _, ⟨_, rfl⟩, q⟩
  | bool b =>
    refine PySem.P.repr_of_bool ⟨.str _, H, I.tok _, ⟨σ0.toks, ?_⟩, q⟩
    cases b <;> rfl
  | int i t =>
    refine PySem.P.repr_of_int (by simpa [PyData.showable] using h1) ⟨.str _, H, I.tok _, ⟨_, rfl⟩, q⟩
  | str x t => exact PySem.P.repr_of_str ⟨.str _, H, I.tok _, ⟨_, rfl⟩, q⟩ hz
  | list a1 a2 a3 a4 =>
    exact repr_of_reads' (.list a1 a2 a3 a4) h1 (fun _ => ns) ck.gd (by omega) (fun _ _ z => z) (fun h' u tk hk => ⟨.str _, H, I.kept hk, ⟨_, rfl⟩, q⟩) hz
  | tuple a1 a2 a3 a4 =>
    exact repr_of_reads' (.tuple a1 a2 a3 a4) h1 (fun _ => ns) ck.gd (by omega) (fun _ _ z => z) (fun h' u tk hk => ⟨.str _, H, I.kept hk, ⟨_, rfl⟩, q⟩) hz
  | dict a1 a2 a3 a4 a5 =>
    exact repr_of_reads' (.dict a1 a2 a3 a4 a5) h1 (fun _ => ns) ck.gd (by omega) (fun _ _ z => z) (fun h' u tk hk => ⟨.str _, H, I.kept hk, ⟨_, rfl⟩, q⟩) hz
end
end Dl
end

section
set_option Elab.async false
set_option linter.all false
set_option maxRecDepth 100000
set_option maxHeartbeats 1000000
/-! D12: built-in functions of values. -/
namespace Dl
open PySem PySem.Spec PyProof.Rows L2

theorem comb_small : ∀ n : Fin 21, ∀ k : Fin 21, PySem.W.mcComb ((n : Nat) : Int) ((k : Nat) : Int) = ((chooseN n k : Nat) : Int) := by decide +kernel
def rLen (K : PySem.W.Frag) : List V → Hp → VK → Prop := fun xs H Q => (∃ x n, xs = [x] ∧ LenV K x H n ∧ Q (.int n) H) ∨ ∃ a kvs, xs = [.ref a] ∧ H a = some (.dK kvs) ∧ Q (.int kvs.length) H
theorem cr_len {X : Cx} : CallR X (.builtin "len") (rLen X.K) := by
  intro pins s σ H xs us Q I r h
  rcases h with h | ⟨a, kvs, rfl, ha, q⟩
  · exact call_len pins s σ H xs us Q I r h
  · rw [Vals.ref1 r]
    exact d_len I (.inl ha) fun t s' I' => ⟨.int _, H, I', ⟨t, rfl⟩, q⟩
theorem cr_comb {X : Cx} : CallR X (.builtin "math.comb") (fun xs H Q => ∃ i j : Int, xs = [.int i, .int j] ∧ 0 ≤ i ∧ i ≤ 20 ∧ 0 ≤ j ∧ j ≤ 20 ∧ Q (.int (chooseN i.toNat j.toNat)) H) := by
  intro pins s σ H xs us Q I r h
  obtain ⟨i, j, rfl, h1, h2, h3, h4, q⟩ := h
  obtain ⟨u, w', rfl, ⟨t, rfl⟩, ⟨t', rfl⟩⟩ := vals2 r
  refine PySem.W.mc_comb_v (c := chooseN i.toNat j.toNat) h1 h3 (by omega) (.inl (by omega)) ?_ ⟨.int _, H, I.tok _, ⟨_, rfl⟩, q⟩
  have z := comb_small ⟨i.toNat, by omega⟩ ⟨j.toNat, by omega⟩
  simp only [Int.toNat_of_nonneg h1, Int.toNat_of_nonneg h3] at z
  exact z

def rTupleZ (K : PySem.W.Frag) : List V → Hp → VK → Prop := fun xs H Q => ∃ p ys, xs = [.ref p] ∧ ((SqL K H p ys ∧ ∀ l (o : Obj), H l = none → o.dict = none → Q (.ref l) (upd H l (.frz o (.tup ys)))) ∨ (SqT K H p ys ∧ Q (.ref p) H))
theorem call_tupleZ {X : Cx} : CallR X (.type "tuple") (rTupleZ X.K) := by
  intro pins s σ H xs us Q I r h
  obtain ⟨p, ys, rfl, h⟩ := h
  obtain ⟨u, rfl, rx⟩ := vals1 r
  cases rx
  rcases h with ⟨hq, q⟩ | ⟨hq, q⟩
  · obtain ⟨its, r', pl, hz⟩ := I.list hq
    have hlen := r'.length
    refine call_tuple_list pl.isList (fun h' kp => ?_) (by simp only [List.size_toArray] <;> omega)
    have I1 : Inv X pins σ H { s with heap := h' } := I.kept (t' := s.toks) kp
    have hg := Heap.get?_push_size h' (o := { cls := .type "tuple", data := .seq its.toArray }) rfl
    have I2 : Inv X pins σ (upd H h'.objs.size (.frz { cls := .type "tuple", data := .seq its.toArray } (.tup ys))) { s with heap := h'.push { cls := .type "tuple", data := .seq its.toArray } } :=
      I1.laid (t' := s.toks) (fun b o e => Heap.get?_push_of_some _ e) (Nat.le_refl _) ⟨hg, hz, its, r', _, hg, rfl, 0, rfl⟩
    exact ⟨.ref h'.objs.size, _, I2, rfl, q _ _ (I1.hok.fresh (Nat.le_refl _)) rfl⟩
  · obtain ⟨its, r', pl, hz⟩ := I.tuple hq
    exact call_tuple_same pl ⟨.ref p, H, I, rfl, q⟩
/-- the built-in function's value -/
def primV : Prim → Value
  | .len => .builtin "len"
  | .repr => .builtin "repr"
  | .all => .builtin "all"
  | .any => .builtin "any"
  | .sum => .builtin "sum"
  | .max1 => .builtin "max"
  | .max2 => .builtin "max"
  | .min1 => .builtin "min"
  | .min2 => .builtin "min"
  | .sorted => .builtin "sorted"
  | .abs => .builtin "abs"
  | .comb => .builtin "math.comb"
  | .isi _ => .builtin "isinstance"
  | .list => .type "list"
  | .tuple => .type "tuple"
  | .int => .type "int"
  | .dict => .type "dict"
/-- calls that want no exception being handled -/
def primCalm : Prim → Bool
  | .all => true
  | .any => true
  | .sum => true
  | .max1 => true
  | .max2 => true
  | .min1 => true
  | .min2 => true
  | .dict => true
  | _ => false
def rPrim (T : Pg) (ad : Ad) (K : PySem.W.Frag) : Prim → List V → Hp → VK → Prop
  | .len => rLen K
  | .repr => rRepr T ad
  | .all => rAllS K
  | .any => rAnyS K
  | .sum => rSumS K
  | .max1 => rMaxS K
  | .min1 => rMinS K
  | .max2 => fun xs H Q => ∃ i j, xs = [.int i, .int j] ∧ Q (.int (if j > i then j else i)) H
  | .min2 => fun xs H Q => ∃ i j, xs = [.int i, .int j] ∧ Q (.int (if j < i then j else i)) H
  | .sorted => rSortedS2 K
  | .abs => fun xs H Q => ∃ i, xs = [.int i] ∧ Q (.int (if i < 0 then -i else i)) H
  | .comb => fun xs H Q => ∃ i j : Int, xs = [.int i, .int j] ∧ 0 ≤ i ∧ i ≤ 20 ∧ 0 ≤ j ∧ j ≤ 20 ∧ Q (.int (chooseN i.toNat j.toNat)) H
  | .list => fun xs H Q => ∃ p ys, xs = [.ref p] ∧ (SqL K H p ys ∨ SqT K H p ys) ∧ ∀ l, H l = none → Q (.ref l) (upd H l (.lst ys))
  | .tuple => rTupleZ K
  | .int => fun xs H Q => (∃ i, xs = [.int i] ∧ Q (.int i) H) ∨ ∃ k, xs = [.bl k] ∧ Q (.int (if k then 1 else 0)) H
  | .dict => fun xs H Q => ∃ (a : Addr) (ps : List Addr) (kvs : List (Key × V)), xs = [.ref a] ∧ SqL K H a (ps.map V.ref) ∧ Paired (fun p kv => SqT K H p [kV kv.1, kv.2]) ps kvs ∧ ∀ p, H p = none → Q (.ref p) (upd H p (.dK (mergeK [] kvs)))
  | .isi _ => fun _ _ _ => False
theorem cr_prim {X : Cx} {T : Pg} {ad : Ad} (ck : Cok X) (p : Prim) (hc : primCalm p = true → X.calm = true) : CallR X (primV p) (rPrim T ad X.K p) := by
  cases p with
  | len => exact cr_len
  | repr => exact cr_repr ck
  | all => exact cr_allS (hc rfl)
  | any => exact cr_anyS (hc rfl)
  | sum => exact cr_sumS (hc rfl)
  | max1 => exact cr_maxS (hc rfl)
  | min1 => exact cr_minS (hc rfl)
  | max2 => exact call_max2 (hc rfl)
  | min2 => exact call_min2 (hc rfl)
  | sorted => exact cr_sortedS2
  | abs => exact call_abs
  | comb => exact cr_comb
  | list => exact call_list_of
  | tuple => exact call_tupleZ
  | int => exact call_int1
  | dict => exact call_dictP (hc rfl)
  | isi ts => exact fun _ _ _ _ _ _ _ _ _ h => h.elim

section
variable {T : Pg} {ad : Ad} {b : List Nat} {W : WX} {X : Cx} {K : PySem.W.Frag} {C : List Nat → Nat → List D → Sto → R D}
variable {s : L2.St} {e : Env} {S : Sto} {H : Hp} {mu : List Addr} {nu : Addr → Prop}
theorem intsD_ok : ∀ {vs : List V} {ds : List D} {fp : List Addr} {l : List Int}, RepOL T ad H mu nu vs ds fp → intsD ds = some l → vs = l.map V.int ∧ fp = []
  | _, _, _, l, .nil, h => by
    simp only [intsD, Option.some.injEq] at h
    subst h
    exact ⟨rfl, rfl⟩
  | _, d :: ds, _, l, .cons r1 r2, h => by
    cases d with
    | int i =>
      simp only [intsD] at h
      cases h2 : intsD ds with
      | none => rw [h2] at h; cases h
      | some l2 =>
        rw [h2] at h
        cases h
        obtain ⟨a1, a2⟩ := r1.int
        obtain ⟨b1, b2⟩ := intsD_ok r2 h2
        rw [a1, a2, b1, b2]
        exact ⟨rfl, rfl⟩
    | _ => simp [intsD] at h
theorem boolsD_ok : ∀ {vs : List V} {ds : List D} {fp : List Addr} {l : List Bool}, RepOL T ad H mu nu vs ds fp → boolsD ds = some l → vs = l.map V.bl ∧ fp = []
  | _, _, _, l, .nil, h => by
    simp only [boolsD, Option.some.injEq] at h
    subst h
    exact ⟨rfl, rfl⟩
  | _, d :: ds, _, l, .cons r1 r2, h => by
    cases d with
    | bl i =>
      simp only [boolsD] at h
      cases h2 : boolsD ds with
      | none => rw [h2] at h; cases h
      | some l2 =>
        rw [h2] at h
        cases h
        obtain ⟨a1, a2⟩ := r1.bl
        obtain ⟨b1, b2⟩ := boolsD_ok r2 h2
        rw [a1, a2, b1, b2]
        exact ⟨rfl, rfl⟩
    | _ => simp [boolsD] at h
theorem Seq.both {v : V} {xs : List V} {c : Bool} (q : Seq K H v xs c) : ∃ a, v = .ref a ∧ (SqL K H a xs ∨ SqT K H a xs) := by
  cases q with
  | lst h => exact ⟨_, rfl, .inl (.inl h)⟩
  | tup h => exact ⟨_, rfl, .inr h.sq⟩
theorem foldl_max (l : List Int) : ∀ x : Int, l.foldl max x ∈ x :: l ∧ ∀ y, y ∈ x :: l → y ≤ l.foldl max x := by
  induction l with
  | nil => exact fun x => ⟨by simp, fun y h => by simp at h; simp [h]⟩
  | cons z l ih =>
    intro x
    rw [List.foldl_cons]
    obtain ⟨h1, h2⟩ := ih (max x z)
    refine ⟨?_, fun y h => ?_⟩
    · rcases List.mem_cons.mp h1 with h | h
      · rw [h]
        by_cases hx : x ≤ z
        · rw [show max x z = z by omega]; simp
        · rw [show max x z = x by omega]; simp
      · exact List.mem_cons_of_mem _ (List.mem_cons_of_mem _ h)
    · have h0 := h2 (max x z) List.mem_cons_self
      rcases List.mem_cons.mp h with h | h
      · rw [h]; omega
      · rcases List.mem_cons.mp h with h | h
        · rw [h]; omega
        · exact h2 y (List.mem_cons_of_mem _ h)
theorem foldl_min (l : List Int) : ∀ x : Int, l.foldl min x ∈ x :: l ∧ ∀ y, y ∈ x :: l → l.foldl min x ≤ y := by
  induction l with
  | nil => exact fun x => ⟨by simp, fun y h => by simp at h; simp [h]⟩
  | cons z l ih =>
    intro x
    rw [List.foldl_cons]
    obtain ⟨h1, h2⟩ := ih (min x z)
    refine ⟨?_, fun y h => ?_⟩
    · rcases List.mem_cons.mp h1 with h | h
      · rw [h]
        by_cases hx : x ≤ z
        · rw [show min x z = x by omega]; simp
        · rw [show min x z = z by omega]; simp
      · exact List.mem_cons_of_mem _ (List.mem_cons_of_mem _ h)
    · have h0 := h2 (min x z) List.mem_cons_self
      rcases List.mem_cons.mp h with h | h
      · rw [h]; omega
      · rcases List.mem_cons.mp h with h | h
        · rw [h]; omega
        · exact h2 y (List.mem_cons_of_mem _ h)
/-- the one argument -/
theorem RepOL.one {vs : List V} {d : D} {fp : List Addr} (r : RepOL T ad H mu nu vs [d] fp) : ∃ v, vs = [v] ∧ RepO T ad H mu nu v d fp := by
  cases r with
  | cons r1 r2 =>
    cases r2
    rw [List.append_nil]
    exact ⟨_, rfl, r1⟩
theorem RepOL.two {vs : List V} {d1 d2 : D} {fp : List Addr} (r : RepOL T ad H mu nu vs [d1, d2] fp) : ∃ v1 v2 f1 f2, vs = [v1, v2] ∧ fp = f1 ++ f2 ∧ RepO T ad H mu nu v1 d1 f1 ∧ RepO T ad H mu nu v2 d2 f2 := by
  cases r with
  | cons r1 r2 =>
    obtain ⟨v, rfl, r3⟩ := r2.one
    exact ⟨_, _, _, _, rfl, rfl, r1, r3⟩
theorem kids_ints {d : D} {v : V} {fp : List Addr} {l : List Int} (st : Sta T ad b H mu nu s e S) (ro : RepO T ad H mu nu v d fp) (h : (kids S d).bind intsD = some l) : ∃ c, Seq K H v (l.map V.int) c := by
  cases hk : kids S d with
  | none => rw [hk] at h; cases h
  | some xs =>
    rw [hk] at h
    obtain ⟨vs, gp, c, sq, rl, _, _⟩ := kids_ok (K := K) st ro hk
    obtain ⟨e1, _⟩ := intsD_ok rl h
    exact ⟨c, e1 ▸ sq⟩
theorem kids_bools {d : D} {v : V} {fp : List Addr} {l : List Bool} (st : Sta T ad b H mu nu s e S) (ro : RepO T ad H mu nu v d fp) (h : (kids S d).bind boolsD = some l) : ∃ c, Seq K H v (l.map V.bl) c := by
  cases hk : kids S d with
  | none => rw [hk] at h; cases h
  | some xs =>
    rw [hk] at h
    obtain ⟨vs, gp, c, sq, rl, _, _⟩ := kids_ok (K := K) st ro hk
    obtain ⟨e1, _⟩ := boolsD_ok rl h
    exact ⟨c, e1 ▸ sq⟩
theorem look_dic {o : Bool} {d : D} {v : V} {fp : List Addr} {ks xs : List D} (st : Sta T ad b H mu nu s e S) (ro : RepO T ad H mu nu v d fp) (h : look S d = some (.dic o ks xs)) :
    ∃ a kvs, v = .ref a ∧ H a = some (.dK kvs) ∧ ks = kvs.map fun p => keyD p.1 := by
  cases d with
  | ref n =>
    obtain ⟨a, rfl, rfl, ha⟩ := ro.ref
    cases st.cel n a _ ha h with
    | dic e r => exact ⟨_, _, rfl, e, rfl⟩
  | dic o' _ _ =>
    cases h
    cases ro with
    | of r => cases r with | dic n e r => exact ⟨_, _, rfl, e, rfl⟩
    | dic n e r => exact ⟨_, _, rfl, e, rfl⟩
  | _ => cases h
theorem look_str {d : D} {x : Str} (h : look S d = some (.str x)) (hc : ∀ (n : Nat) (a : Addr) (c : D), mu[n]? = some a → S[n]? = some c → RepC T ad H mu nu a c) {v : V} {fp : List Addr} (ro : RepO T ad H mu nu v d fp) : v = .str x := by
  cases d with
  | ref n =>
    obtain ⟨a, rfl, rfl, ha⟩ := ro.ref
    cases hc n a _ ha h
  | str y => cases h; exact ro.str.1
  | _ => cases h
theorem primF_ok {p : Prim} {vs : List V} {ds : List D} {fp : List Addr} {Q : VK} (hp : ∀ ts, p ≠ .isi ts) (hp2 : p ≠ .dict) (st : Sta T ad b H mu nu s e S) (ro : RepOL T ad H mu nu vs ds fp) (ow : Own nu fp)
    (q : Pst T ad b W s e (primF p ds S) H mu nu fp Q) : rPrim T ad K p vs H Q := by
  unfold primF at q
  split at q
  · rename_i a
    obtain ⟨v, rfl, r⟩ := ro.one
    split at q
    · rename_i x hl
      split at q
      · rename_i hx
        exact .inl ⟨v, x.length, rfl, by rw [look_str hl st.cel r]; exact ⟨hx, rfl⟩, q.val st (.int _)⟩
      · exact q.elim
    · rename_i xs hl
      obtain ⟨a, vs, rfl, _, h1, h2⟩ := look_tup st r hl
      exact .inl ⟨_, xs.length, rfl, .inr ⟨vs, h1.sq, h2.length.symm⟩, q.val st (.int _)⟩
    · rename_i o xs hl
      obtain ⟨a, vs, gp, rfl, h1, h2, _, _⟩ := look_lst (K := K) st r hl
      exact .inl ⟨_, xs.length, rfl, .inl ⟨vs, .inl h1, h2.length.symm⟩, q.val st (.int _)⟩
    · rename_i o ks xs hl
      obtain ⟨a, kvs, rfl, h1, rfl⟩ := look_dic st r hl
      rw [List.length_map] at q
      exact .inr ⟨a, kvs, rfl, h1, q.val st (.int _)⟩
    · exact q.elim
  · obtain ⟨v, rfl, r⟩ := ro.one
    split at q
    · rename_i d hn
      split at q
      · rename_i hz
        exact ⟨v, _, d, _, b, s, e, S, mu, nu, rfl, st, r, hn, hz, q.val st (.str _)⟩
      · exact q.elim
    · exact q.elim
  · obtain ⟨v, rfl, r⟩ := ro.one
    split at q
    · rename_i l hl
      obtain ⟨c, sq⟩ := kids_bools (K := K) st r hl
      exact ⟨v, l, c, rfl, sq, q.val st (.bl _)⟩
    · exact q.elim
  · obtain ⟨v, rfl, r⟩ := ro.one
    split at q
    · rename_i l hl
      obtain ⟨c, sq⟩ := kids_bools (K := K) st r hl
      exact ⟨v, l, c, rfl, sq, q.val st (.bl _)⟩
    · exact q.elim
  · obtain ⟨v, rfl, r⟩ := ro.one
    split at q
    · rename_i l hl
      obtain ⟨c, sq⟩ := kids_ints (K := K) st r hl
      exact ⟨v, l, c, rfl, sq, q.val st (.int _)⟩
    · exact q.elim
  · obtain ⟨v, rfl, r⟩ := ro.one
    split at q
    · rename_i x l hl
      obtain ⟨c, sq⟩ := kids_ints (K := K) st r hl
      obtain ⟨f1, f2⟩ := foldl_max l x
      refine ⟨v, x :: l, c, rfl, sq, by simp, fun m hm ha => ?_⟩
      have em : m = l.foldl max x := Int.le_antisymm (f2 m hm) (ha _ f1)
      rw [em]
      exact q.val st (.int _)
    · exact q.elim
  · obtain ⟨v, rfl, r⟩ := ro.one
    split at q
    · rename_i x l hl
      obtain ⟨c, sq⟩ := kids_ints (K := K) st r hl
      obtain ⟨f1, f2⟩ := foldl_min l x
      refine ⟨v, x :: l, c, rfl, sq, by simp, fun m hm ha => ?_⟩
      have em : m = l.foldl min x := Int.le_antisymm (ha _ f1) (f2 m hm)
      rw [em]
      exact q.val st (.int _)
    · exact q.elim
  · obtain ⟨v1, v2, f1, f2, rfl, rfl, r1, r2⟩ := ro.two
    rw [r1.int.1, r2.int.1]
    exact ⟨_, _, rfl, q.val st (.int _)⟩
  · obtain ⟨v1, v2, f1, f2, rfl, rfl, r1, r2⟩ := ro.two
    rw [r1.int.1, r2.int.1]
    exact ⟨_, _, rfl, q.val st (.int _)⟩
  · obtain ⟨v, rfl, r⟩ := ro.one
    split at q
    · rename_i l hl
      obtain ⟨c, sq⟩ := kids_ints (K := K) st r hl
      refine ⟨v, l, c, rfl, sq, fun p hp => ?_⟩
      have rl : RepOL T ad H mu nu ((sortI l).map V.int) ((sortI l).map D.int) [] := by
        generalize sortI l = m
        induction m with
        | nil => exact .nil
        | cons x m ih => exact .cons (.of (.int x)) ih
      exact q.lst st rl .nil (fun a h => absurd h List.not_mem_nil) hp
    · exact q.elim
  · obtain ⟨v, rfl, r⟩ := ro.one
    split at q
    · rename_i xs hl
      obtain ⟨vs, gp, c, sq, rl, i1, i2⟩ := kids_ok (K := K) st r hl
      obtain ⟨a, rfl, sq2⟩ := sq.both
      exact ⟨a, vs, rfl, sq2, fun p hp => q.lst st rl (ow.sub i1 i2) i1 hp⟩
    · exact q.elim
  · obtain ⟨v, rfl, r⟩ := ro.one
    split at q
    · rename_i xs hl
      obtain ⟨vs, gp, c, sq, rl, i1, i2⟩ := kids_ok (K := K) st r hl
      cases sq with
      | @lst a _ h => exact ⟨a, vs, rfl, .inl ⟨.inl h, fun p o hp ho => q.tup st rl (ow.sub i1 i2) i1 hp ho⟩⟩
      | @tup a _ h =>
        refine ⟨a, vs, rfl, .inr ⟨h.sq, ?_⟩⟩
        have na : ¬ nu a := by
          unfold kids at hl
          split at hl
          · rename_i o ys hy
            obtain ⟨a', vs', gp', e', h', _⟩ := look_lst (K := K) st r hy
            cases e'
            obtain ⟨_, _, h⟩ := h
            rcases h' with h' | ⟨_, h'⟩ <;> · rw [h] at h'; cases h'
          · rename_i ys hy
            obtain ⟨a', vs', e', n', _⟩ := look_tup st r hy
            cases e'
            exact n'
          · cases hl
        exact q.fin st (.tup na h rl) (ow.sub i1 i2) i1
    · exact q.elim
  · obtain ⟨v, rfl, r⟩ := ro.one
    rw [r.int.1]
    exact .inl ⟨_, rfl, q.val st (.int _)⟩
  · obtain ⟨v, rfl, r⟩ := ro.one
    rw [r.bl.1]
    exact .inr ⟨_, rfl, q.val st (.int _)⟩
  · obtain ⟨v, rfl, r⟩ := ro.one
    rw [r.int.1]
    exact ⟨_, rfl, q.val st (.int _)⟩
  · obtain ⟨v1, v2, f1, f2, rfl, rfl, r1, r2⟩ := ro.two
    split at q
    · rename_i h
      rw [r1.int.1, r2.int.1]
      exact ⟨_, _, rfl, h.1, h.2.1, h.2.2.1, h.2.2.2, q.val st (.int _)⟩
    · exact q.elim
  · exact absurd rfl hp2
  · exact absurd rfl (hp _)
  · exact q.elim
end
end Dl
end

section
set_option Elab.async false
set_option linter.all false
set_option maxRecDepth 100000
set_option maxHeartbeats 1000000
/-! D13: dict, isinstance. -/
namespace Dl
open PySem PySem.Spec PyProof.Rows L2
section
variable {T : Pg} {ad : Ad} {b : List Nat} {W : WX} {X : Cx} {K : PySem.W.Frag} {C : List Nat → Nat → List D → Sto → R D}
variable {s : L2.St} {e : Env} {S : Sto} {H : Hp} {mu : List Addr} {nu : Addr → Prop}
theorem eqD_key (a c : Key) : eqD (keyD a) (keyD c) = decide (a = c) := by
  cases a with
  | inl i =>
    cases c with
    | inl j => rw [key_ll]; rfl
    | inr y => rw [key_lr]; rfl
  | inr x =>
    cases c with
    | inl j => rw [key_rl]; rfl
    | inr y =>
      rw [key_rr]
      show (x == y) = decide (x = y)
      by_cases h : x = y
      · rw [decide_eq_true h, beq_iff_eq.mpr h]
      · rw [decide_eq_false h, beq_eq_false_iff_ne.mpr h]
theorem dmap_ok {k : Key} {v : V} {d : D} (r : Rep T ad H mu nu v d) : ∀ {kvs : List (Key × V)} {vs : List D}, RepL T ad H mu nu (kvs.map (·.2)) vs → RepL T ad H mu nu ((kvs.map fun kv => if kv.1 = k then (kv.1, v) else kv).map (·.2)) (dmap (keyD k) d (kvs.map fun p => keyD p.1) vs)
  | [], _, h => by cases h; exact .nil
  | p :: kvs, _, h => by
    cases h with
    | cons h1 h2 =>
      simp only [List.map_cons, dmap, eqD_key]
      by_cases e : p.1 = k
      · simp only [e, if_true, decide_true]
        exact .cons r (by simpa only [e] using dmap_ok r h2)
      · simp only [e, if_false, decide_false]
        exact .cons h1 (dmap_ok r h2)
theorem RepL.app : ∀ {vs ws : List V} {ds es : List D}, RepL T ad H mu nu vs ds → RepL T ad H mu nu ws es → RepL T ad H mu nu (vs ++ ws) (ds ++ es)
  | _, _, _, _, .nil, h => h
  | _, _, _, _, .cons h1 h2, h => .cons h1 (h2.app h)
theorem putK_ok {k : Key} {v : V} {d : D} (r : Rep T ad H mu nu v d) {kvs : List (Key × V)} {vs : List D} (h : RepL T ad H mu nu (kvs.map (·.2)) vs) :
    (dput (keyD k) d (kvs.map fun p => keyD p.1) vs).1 = (putK kvs k v).map (fun p => keyD p.1) ∧ RepL T ad H mu nu ((putK kvs k v).map (·.2)) (dput (keyD k) d (kvs.map fun p => keyD p.1) vs).2 := by
  have ea : ((kvs.map fun p => keyD p.1).any fun x => eqD x (keyD k)) = kvs.any fun kv => decide (kv.1 = k) := by
    rw [List.any_map]
    congr 1
    funext kv
    exact eqD_key kv.1 k
  unfold dput putK
  rw [ea]
  split
  · refine ⟨?_, dmap_ok r h⟩
    show (kvs.map fun p => keyD p.1) = _
    rw [List.map_map]
    refine List.map_congr_left fun p _ => ?_
    show keyD p.1 = keyD (if p.1 = k then (p.1, v) else p).1
    split <;> rfl
  · refine ⟨by simp, ?_⟩
    rw [List.map_append]
    exact h.app (.cons r .nil)
theorem key_of {k : D} {v : V} (r : Rep T ad H mu nu v k) (h : keyKS k = true) : ∃ q : Key, k = keyD q ∧ v = kV q := by
  cases r with
  | int i => exact ⟨.inl i, rfl, rfl⟩
  | str x => exact ⟨.inr x, rfl, rfl⟩
  | _ => cases h
theorem dfold_ok : ∀ (ds : List D) {vs : List V} {kvs : List (Key × V)} {ws ks' vs' : List D}, RepL T ad H mu nu vs ds → RepL T ad H mu nu (kvs.map (·.2)) ws → dfold ds (kvs.map fun p => keyD p.1) ws = some (ks', vs') →
    ∃ (ps : List Addr) (more : List (Key × V)), vs = ps.map V.ref ∧ Paired (fun p kv => SqT K H p [kV kv.1, kv.2]) ps more ∧ ks' = (mergeK kvs more).map (fun p => keyD p.1) ∧ RepL T ad H mu nu ((mergeK kvs more).map (·.2)) vs'
  | [], _, kvs, ws, ks', vs', r, rw', h => by
    cases r
    simp only [dfold, Option.some.injEq, Prod.mk.injEq] at h
    obtain ⟨rfl, rfl⟩ := h
    exact ⟨[], [], rfl, .nil, rfl, rw'⟩
  | d :: ds, _, kvs, ws, ks', vs', r, rw', h => by
    cases r with
    | cons r1 r2 =>
      unfold dfold at h
      split at h
      · rename_i heq
        exact absurd heq (List.cons_ne_nil _ _)
      · rename_i k v r' _ _ e
        injection e with e1 e2
        subst e1 e2
        split at h
        · rename_i hk
          cases r1 with
          | tup n ha rl =>
            cases rl with
            | cons rk rl =>
              cases rl with
              | cons rv rl =>
                cases rl
                obtain ⟨q, rfl, rfl⟩ := key_of rk hk
                obtain ⟨p1, p2⟩ := putK_ok (k := q) rv rw'
                rw [p1] at h
                obtain ⟨ps, more, e1, e2, e3, e4⟩ := dfold_ok _ r2 p2 h
                exact ⟨_ :: ps, (q, _) :: more, by rw [e1]; rfl, .cons ha.sq e2, e3, e4⟩
        · cases h
      · cases h
/-- a new dict -/
theorem Pst.dic {Q : VK} {q : Addr} {kvs : List (Key × V)} {ds : List D} {f0 fp : List Addr} (p : Pst T ad b W s e (.ok (.dic true (kvs.map fun p => keyD p.1) ds) S) H mu nu f0 Q) (st : Sta T ad b H mu nu s e S) (ro : RepOL T ad H mu nu (kvs.map (·.2)) ds fp) (ow : Own nu fp) (fr : ∀ a, a ∈ fp → a ∈ f0) (hq : H q = none) : Q (.ref q) (upd H q (.dK kvs)) := by
  have nm : q ∉ mu := fun z => by
    obtain ⟨o, h⟩ := st.tracked z
    rw [hq] at h
    cases h
  have nf : q ∉ fp := fun z => by
    obtain ⟨o, h⟩ := st.trk q (ow.2 q z)
    rw [hq] at h
    cases h
  have h1 : ∀ a, (nu a ∨ a = q) → nu a ∨ a = q := fun a z => z
  have k : KpO H mu nu (upd H q (.dK kvs)) mu (fun a => nu a ∨ a = q) := new_kpO hq _ h1
  refine p _ _ mu (fun a => nu a ∨ a = q) (q :: fp) (new_stp hq _ h1 fun a z => .inl z) (st.made hq _ h1 fun a z => .inl z) (.dic nm upd_same (ro.keeps k)) ⟨List.nodup_cons.mpr ⟨nf, ow.1⟩, fun a h => ?_⟩ fun a h => ?_
  · rcases List.mem_cons.mp h with e | h
    · exact .inr e
    · exact .inl (ow.2 a h)
  · rcases List.mem_cons.mp h with e | h
    · exact .inr (by rw [e]; exact hq)
    · exact .inl (fr a h)
theorem dict_ok {H1 : Hp} {mu1 : List Addr} {nu1 : Addr → Prop} {S0 : Sto} {vs : List V} {ds : List D} {fp : List Addr} {Q : VK} (x : Stp H mu nu H1 mu1 nu1) (st0 : Sta T ad b H mu nu s e S0) (st : Sta T ad b H1 mu1 nu1 s e S) (ro : RepOL T ad H1 mu1 nu1 vs ds fp) (ow : Own nu1 fp) (fr : ∀ a, a ∈ fp → H a = none)
    (q : Pst T ad b W s e (primF .dict ds S) H mu nu [] Q) : rPrim T ad K .dict vs H1 Q := by
  unfold primF at q
  split at q
  all_goals first | exact q.elim | skip
  all_goals try (rename_i hh; cases hh)
  rename_i a
  obtain ⟨v, rfl, r⟩ := ro.one
  split at q
  · rename_i o xs hl
    split at q
    · rename_i ks vs' hd
      obtain ⟨a, ws, gp, rfl, h1, h2, i1, i2⟩ := look_lst (K := K) st r hl
      obtain ⟨x', st', rl⟩ := land x st0 st h2 fun a m => fr a (i1 a m)
      obtain ⟨ps, more, e1, e2, e3, e4⟩ := dfold_ok (K := K) (kvs := []) _ rl .nil hd
      subst e1 e3
      exact ⟨a, ps, more, rfl, .inl h1, e2, fun p hp => Pst.dic (q.step x' (fun a m => absurd m List.not_mem_nil)) st' (Rep.ofL _ e4) .nil (fun a m => m) hp⟩
    · exact q.elim
  · exact q.elim

theorem prim_ok {p : Prim} {es : List E} (hp : ∀ ts, p ≠ .isi ts) : ∀ s H Q, tE T ad b W (ev T C b (.prim p es)) s H Q → tCB (rPrim T ad K p) (tA T ad b W (evs T C b es)) s H Q := fun s H Q h => by
  obtain ⟨mu, nu, e, S, st, q⟩ := h
  rw [ev] at q
  by_cases hd : p = .dict
  · subst hd
    exact tA_bind0 st q fun vs ds S1 H1 mu1 nu1 fp x st1 ro ow fr p1 => dict_ok x st st1 ro ow fr p1
  · exact tA_bind st q fun vs ds S1 H1 mu1 nu1 fp x st1 ro ow fr p1 => primF_ok hp hd st1 ro ow p1

/-! ### isinstance -/
def tyV (ad : Ad) : Ty → V
  | .int => .ty "int"
  | .bool => .ty "bool"
  | .str => .ty "str"
  | .tuple => .ty "tuple"
  | .list => .ty "list"
  | .dict => .ty "dict"
  | .set => .ty "set"
  | .none => .ty "NoneType"
  | .cls c => .ref (ad.cl c)
def tyU (ad : Ad) : Ty → Value
  | .int => .type "int"
  | .bool => .type "bool"
  | .str => .type "str"
  | .tuple => .type "tuple"
  | .list => .type "list"
  | .dict => .type "dict"
  | .set => .type "set"
  | .none => .type "NoneType"
  | .cls c => .ref (ad.cl c)
theorem tyV_cls (ad : Ad) (t : Ty) : ClsV (tyV ad t) (tyU ad t) := by cases t <;> constructor
/-- what is asked of the classes -/
structure Clf (T : Pg) (ad : Ad) (K : PySem.W.Frag) : Prop where
  cls : ∀ c, T.isI c → Cls K (ad.cl c) ∧ PySem.W.findIn K (.ref (ad.cl c)) "__class__" = some (some (.builtin "object.__class__")) ∧
    PySem.W.specialIn K (.builtin "object.__class__") "__get__" = some (some (.builtin "getset_descriptor.__get__")) ∧ PySem.W.takesIn K (.builtin "object.__class__") = some true ∧
    PySem.W.mroIn K (ad.cl c) (.type "object") = some true
  kit : ∀ t u : Ty, (∀ c, t = .cls c → T.isI c) → (∀ c, u = .cls c → T.isI c) → PySem.W.kitOne K (tyU ad t) (tyU ad u) = some (subTy t u)
theorem tyD_ok (cf : Clf T ad K) {d : D} {v : V} {fp : List Addr} {t : Ty} (st : Sta T ad b H mu nu s e S) (ro : RepO T ad H mu nu v d fp) (h : tyD S d = some t) : TyX K H v (tyU ad t) ∧ ∀ c, t = .cls c → T.isI c := by
  unfold tyD at h
  split at h
  · rename_i hl
    cases h
    cases d with
    | non => rw [ro.non.1]; exact ⟨.base .non, fun c z => by cases z⟩
    | ref n =>
      obtain ⟨a, rfl, rfl, ha⟩ := ro.ref
      cases st.cel n a _ ha hl
    | _ => cases hl
  · rename_i hl
    cases h
    cases d with
    | bl _ => rw [ro.bl.1]; exact ⟨.base (.bl _), fun c z => by cases z⟩
    | ref n =>
      obtain ⟨a, rfl, rfl, ha⟩ := ro.ref
      cases st.cel n a _ ha hl
    | _ => cases hl
  · rename_i hl
    cases h
    cases d with
    | int _ => rw [ro.int.1]; exact ⟨.base (.int _), fun c z => by cases z⟩
    | ref n =>
      obtain ⟨a, rfl, rfl, ha⟩ := ro.ref
      cases st.cel n a _ ha hl
    | _ => cases hl
  · rename_i x hl
    cases h
    rw [look_str hl st.cel ro]
    exact ⟨.base (.str _), fun c z => by cases z⟩
  · rename_i xs hl
    cases h
    obtain ⟨a, vs, rfl, _, h1, _⟩ := look_tup st ro hl
    obtain ⟨_, _, h1⟩ := h1
    exact ⟨.fTuple h1, fun c z => by cases z⟩
  · rename_i o xs hl
    cases h
    obtain ⟨a, vs, gp, rfl, h1, _⟩ := look_lst (K := K) st ro hl
    refine ⟨?_, fun c z => by cases z⟩
    rcases h1 with h1 | ⟨o, h1⟩
    · exact .base (.lst h1)
    · exact .base (.frz h1)
  · rename_i o ks xs hl
    cases h
    obtain ⟨a, kvs, rfl, h1, _⟩ := look_dic st ro hl
    exact ⟨.base (.dK h1), fun c z => by cases z⟩
  · rename_i o c xs hl
    cases h
    have key : T.isI c → ∀ {a dx : Addr} {fs : List (Str × V)}, H a = some (.ins (ad.cl c) dx fs) → TyX K H (.ref a) (tyU ad (.cls c)) := fun hI a dx fs ha => by
      obtain ⟨c1, c2, c3, c4, c5⟩ := cf.cls c hI
      exact .base (.ins ha c1 c2 c3 c4 c5)
    cases d with
    | ins _ _ _ =>
      cases hl
      cases ro with
      | of r => cases r with | ins hI n ha l rl => exact ⟨key hI ha, fun c z => by cases z; exact hI⟩
      | ins hI n ha l rl => exact ⟨key hI ha, fun c z => by cases z; exact hI⟩
    | ref n =>
      obtain ⟨a, rfl, rfl, ha⟩ := ro.ref
      cases st.cel n a _ ha hl with
      | ins hI ha l rl => exact ⟨key hI ha, fun c z => by cases z; exact hI⟩
    | _ => cases hl
  · cases h
theorem kitAny_ok (cf : Clf T ad K) {t : Ty} (ht : ∀ c, t = .cls c → T.isI c) : ∀ ts : List Ty, (∀ u, u ∈ ts → ∀ c, u = .cls c → T.isI c) → PySem.W.kitAny K (tyU ad t) (ts.map (tyU ad)) = some (ts.any fun u => subTy t u)
  | [], _ => rfl
  | u :: ts, h => by
    rw [List.map_cons, List.any_cons]
    refine kitAny_cons (cf.kit t u ht (h u List.mem_cons_self)) (fun z => ?_) fun z => by rw [z, Bool.true_or]
    rw [z, Bool.false_or]
    exact kitAny_ok cf ht ts fun u m => h u (List.mem_cons_of_mem _ m)
theorem isi_ok (cf : Clf T ad K) {u : Ty} {x : E} (hx : ∀ y, x ≠ .star y) (hu : ∀ c, u = .cls c → T.isI c) : ∀ s H Q, tE T ad b W (ev T C b (.prim (.isi [u]) [x])) s H Q → tCB (rIsi K) (tCons (tE T ad b W (ev T C b x)) (tCons (tC (tyV ad u)) tNil)) s H Q := fun s H Q h => by
  obtain ⟨mu, nu, e, S, st, q⟩ := h
  rw [ev] at q
  have eq : evs T C b [x] e S = (ev T C b x e S).bind fun x S => .ok [x] S := by
    cases x <;> first | rfl | exact absurd rfl (hx _)
  rw [eq] at q
  have q' : Pst T ad b W s e ((ev T C b x e S).bind fun y S => primF (.isi [u]) [y] S) H mu nu [] Q := by
    cases h : ev T C b x e S with
    | ok d S1 => rw [h] at q; exact q
    | ex c xs S1 => rw [h] at q; exact q
    | er => rw [h] at q; exact q
  refine tE_bind st q' fun v d S1 H1 mu1 nu1 fp x st1 ro ow fr p1 => ?_
  unfold primF at p1
  dsimp only at p1
  split at p1
  · rename_i t ht
    obtain ⟨t1, t2⟩ := tyD_ok cf st1 ro ht
    refine ⟨v, tyV ad u, tyU ad t, tyU ad u, subTy t u, rfl, tyV_cls ad u, t1, cf.kit t u t2 hu, ?_⟩
    simp only [List.any_cons, List.any_nil, Bool.or_false] at p1
    exact p1.val st1 (.bl _)
  · exact p1.elim
def tCs : List V → TA
  | [] => tNil
  | v :: vs => tCons (tC v) (tCs vs)
theorem tCs_run : ∀ (vs : List V) {s : L2.St} {H : Hp} {Q : List V → Hp → Prop}, Q vs H → tCs vs s H Q
  | [], _, _, _, q => q
  | v :: vs, s, H, Q, q => tCs_run vs (Q := fun xs H2 => Q (v :: xs) H2) q
theorem clss_ok (ad : Ad) : ∀ us : List Ty, Paired ClsV (us.map (tyV ad)) (us.map (tyU ad))
  | [] => .nil
  | u :: us => .cons (tyV_cls ad u) (clss_ok ad us)
theorem isiT_ok (cf : Clf T ad K) {us : List Ty} {x : E} (hx : ∀ y, x ≠ .star y) (hz : us.length ≤ sizeLine) (hu : ∀ u, u ∈ us → ∀ c, u = .cls c → T.isI c) : ∀ s H Q, tE T ad b W (ev T C b (.prim (.isi us) [x])) s H Q →
    tCB (rIsiT K) (tCons (tE T ad b W (ev T C b x)) (tCons (tTup (tCs (us.map (tyV ad)))) tNil)) s H Q := fun s H Q h => by
  obtain ⟨mu, nu, e, S, st, q⟩ := h
  rw [ev] at q
  have eq : evs T C b [x] e S = (ev T C b x e S).bind fun x S => .ok [x] S := by
    cases x <;> first | rfl | exact absurd rfl (hx _)
  rw [eq] at q
  have q' : Pst T ad b W s e ((ev T C b x e S).bind fun y S => primF (.isi us) [y] S) H mu nu [] Q := by
    cases h : ev T C b x e S with
    | ok d S1 => rw [h] at q; exact q
    | ex c xs S1 => rw [h] at q; exact q
    | er => rw [h] at q; exact q
  refine tE_bind st q' fun v d S1 H1 mu1 nu1 fp x st1 ro ow fr p1 => ?_
  unfold primF at p1
  dsimp only at p1
  split at p1
  · rename_i t ht
    refine tCs_run _ ⟨by rw [List.length_map]; exact hz, fun q hq => ?_⟩
    have hs : Stp H1 mu1 nu1 (upd H1 q (.tup (us.map (tyV ad)))) mu1 nu1 := new_stp hq nu1 (fun a z => .inl z) fun a z => z
    have st2 := st1.made (o := .tup (us.map (tyV ad))) hq nu1 (fun a z => .inl z) fun a z => z
    have ro2 := ro.keeps (hs.keepsO st1.sub)
    obtain ⟨t1, t2⟩ := tyD_ok cf st2 ro2 ht
    have pc := clss_ok ad us
    exact ⟨v, q, us.map (tyV ad), tyU ad t, us.map (tyU ad), _, rfl, upd_same, pc, t1, kitAny_ok cf t2 us hu, (p1.step hs fun a m => .inl m).val st2 (.bl _)⟩
  · exact p1.elim
end
end Dl
end

section
set_option Elab.async false
set_option linter.all false
set_option maxRecDepth 100000
set_option maxHeartbeats 1000000
/-! D14: subscripts, slices. -/
namespace Dl
open PySem PySem.Spec PyProof.Rows L2

/-! ### t[::-1] of a tuple -/
section
variable {prog : Program} {w : World} {A : Around} {E : Value → Shared → Prop} {s : Shared}
theorem rev_pick (xs : List Value) : (List.range xs.length).filterMap (fun (k : Nat) => xs[(((xs.length : Int) - 1) + (k : Int) * (-1)).toNat]?) = xs.reverse := by
  have e : ∀ n, n ≤ xs.length → (List.range n).filterMap (fun (k : Nat) => xs[(((xs.length : Int) - 1) + (k : Int) * (-1)).toNat]?) = xs.reverse.take n := by
    intro n
    induction n with
    | zero => intro _; rfl
    | succ n ih =>
      intro h
      rw [List.range_succ, List.filterMap_append, ih (by omega), List.take_add_one, List.getElem?_reverse (by omega)]
      have e1 : (((xs.length : Int) - 1) + (n : Int) * (-1)).toNat = xs.length - 1 - n := by omega
      have hl : xs.length - 1 - n < xs.length := by omega
      simp only [List.filterMap_cons, List.filterMap_nil, e1, List.getElem?_eq_getElem hl, Option.toList_some]
  rw [e xs.length (Nat.le_refl _)]
  exact List.take_of_length_le (by rw [List.length_reverse]; exact Nat.le_refl _)
theorem sliceApplied_rev {sl : Addr} {vl vu : Value} {t : Tok} {n : Nat} {Q : Int × Int × Nat → Shared → Prop} (hs : s.heap.IsSliceOf sl vl vu (.int (-1) t)) (pl : IsPart vl none) (pu : IsPart vu none)
    (h : Q ((n : Int) - 1, -1, n) s) : wpAny (model prog w) A (Builtin.Slice.sliceApplied (.ref sl) (pure (n : Int))) Q E s := by
  obtain ⟨os, hos, hcs, hds⟩ := id hs
  unfold Builtin.Slice.sliceApplied Builtin.Slice.sliceFields
  refine wpAny_bind (wpAny_bind (wpAny_field hos hds (x := vl) rfl (wpAny_bind (wpAny_field hos hds (x := vu) rfl (wpAny_bind (wpAny_field hos hds (x := .int (-1) t) rfl (wpAny_pure ?_)))))))
  refine wpAny_bind (PyProof.Rows.slicePart_int ?_)
  show wpAny _ _ (if ((-1 : Int) == 0) = true then _ else _) _ _ s
  rw [if_neg (by decide)]
  refine wpAny_bind (HT.slicePart_ pl (wpAny_bind (HT.slicePart_ pu (wpAny_bind (wpAny_pure ?_)))))
  show wpAny _ _ (match Builtin.Slice.sliceAdjust none none (-1) (n : Int) with | (lo, hi) => pure (lo, (-1 : Int), Builtin.Slice.slicePlaces lo hi (-1))) _ _ s
  have e1 : Builtin.Slice.sliceAdjust none none (-1) (n : Int) = ((n : Int) - 1, -1) := by
    simp [Builtin.Slice.sliceAdjust]
  rw [e1]
  have e2 : Builtin.Slice.slicePlaces ((n : Int) - 1) (-1) (-1) = n := by
    unfold Builtin.Slice.slicePlaces
    rw [if_neg (by decide)]
    by_cases hn : 0 < n
    · rw [if_pos (by omega)]
      simp only [Int.neg_neg]
      rw [Int.ediv_one]
      omega
    · rw [if_neg (by omega)]
      omega
  show wpAny _ _ (pure ((n : Int) - 1, (-1 : Int), Builtin.Slice.slicePlaces ((n : Int) - 1) (-1) (-1))) _ _ s
  rw [e2]
  exact wpAny_pure h
theorem getItem_tuple_rev {t sl : Addr} {items : List Value} {vl vu : Value} {tk : Tok} {Q : Value → Shared → Prop} (ht : IsTup s.heap t items.toArray) (hs : s.heap.IsSliceOf sl vl vu (.int (-1) tk)) (pl : IsPart vl none) (pu : IsPart vu none)
    (h : Q (.ref s.heap.objs.size) { s with heap := s.heap.push { cls := .type "tuple", data := .seq items.reverse.toArray } })
    (hsz : items.length ≤ sizeLine) : wpAny (model prog w) A (getItem (.ref t) (.ref sl)) Q E s := by
  have htake : sizeOk (.seq items.reverse.toArray) := by
    show items.reverse.toArray.size ≤ sizeLine
    rw [List.size_toArray, List.length_reverse]
    exact hsz
  obtain ⟨os, hos, hcs, hds⟩ := id hs
  have hTs : s.TypeIs (.ref sl) "slice" := ⟨os, hos, hcs⟩
  unfold getItem
  try with_reducible refine wpAny_holding ?_
  first | refine wpAny_bind (wpAny_pure ?_) | skip
  refine wpAny_bind (wpAny_sequenceKey (PyProof.Rows.IsTup.typeIs ht) (by decide) ?_)
  refine wpAny_bind (wpAny_callSpecial?_slot (name := Str.ofString "__getitem__") ht.typeIs PyProof.Rows.slot_tuple_getitem
    (wpAny_call_entry PyProof.Rows.slot_tuple_getitem ht.typeIs entry_tuple_getitem ?_ (args_tuple_getitem _ _)))
  show wpAny _ _ (Builtin.Tuple.tupleItemsOf (.ref t) >>= _) _ _ s
  refine wpAny_bind (PyProof.Rows.tupleItemsOf_ ht ?_)
  refine wpAny_bind (wpAny_typeOf hTs ?_)
  rw [if_pos (by decide)]
  have hz : (items.toArray.size : Nat) = items.length := List.size_toArray
  refine wpAny_bind (sliceApplied_rev hs pl pu ?_)
  have hno : ¬ ((((items.toArray.size : Int) - 1) == 0 && ((-1 : Int) == 1) && items.toArray.size == items.toArray.size) = true) := by simp
  show wpAny _ _ (if ((((items.toArray.size : Int) - 1) == 0 && ((-1 : Int) == 1) && items.toArray.size == items.toArray.size)) = true then _ else _) _ _ s
  rw [if_neg hno]
  have ep : ((List.range items.toArray.size).filterMap fun (k : Nat) => items.toArray[(((items.toArray.size : Int) - 1) + (k : Int) * (-1)).toNat]?).toArray = items.reverse.toArray := by
    rw [← rev_pick items]
    simp
  rw [ep]
  first
    | exact wpAny_bind (m := Builtin.Tuple.tupleExact _) (wpAny_newObj_type (wpAny_pure ⟨_, rfl, wpAny_pure h⟩) htake)
    | exact wpAny_bind (m := Builtin.Tuple.tupleExact _) (wpAny_newObj_type (wpAny_bind (wpAny_pure (wpAny_pure ⟨_, rfl, wpAny_pure h⟩))) htake)
    | exact wpAny_bind (wpAny_bind (m := Builtin.Tuple.tupleExact _) (wpAny_newObj_type (wpAny_pure (wpAny_pure ⟨_, rfl, wpAny_pure h⟩)) htake))
    | exact wpAny_bind (wpAny_bind (m := Builtin.Tuple.tupleExact _) (wpAny_newObj_type (wpAny_pure ⟨_, rfl, wpAny_pure h⟩) htake))
end
section
variable {X : Cx}
/-- t[lo:hi]: the whole of it is t itself -/
def rSlZ (K : PySem.W.Frag) : V → Option Int → Option Int → Hp → VK → Prop := fun x lo hi H Q => ∃ a xs, x = .ref a ∧ SqT K H a xs ∧
  (HT.sIx xs.length 0 lo = 0 ∧ HT.sIx xs.length xs.length hi = xs.length → Q (.ref a) H) ∧ (¬ (HT.sIx xs.length 0 lo = 0 ∧ HT.sIx xs.length xs.length hi = xs.length) → ∀ p (o : Obj), H p = none → o.dict = none → Q (.ref p) (upd H p (.frz o (.tup (cutV xs lo hi)))))
theorem sl_tupZ : SlR X (rSlZ X.K) := by
  intro pins s σ H x v vl vu lo hi sl Q I rx hs pl pu h
  obtain ⟨a, xs, rfl, hx, q1, q2⟩ := h
  cases rx
  obtain ⟨its, r, ht, hz⟩ := I.tuple hx
  have hlen : its.toArray.size = xs.length := by rw [List.size_toArray]; exact r.length.symm
  have hl2 : its.length = xs.length := r.length.symm
  refine ⟨"tuple", _, PyProof.Rows.slot_tuple_getitem.lookup, PyProof.Rows.IsTup.typeIs ht, ?_⟩
  by_cases hw : HT.sIx xs.length 0 lo = 0 ∧ HT.sIx xs.length xs.length hi = xs.length
  · exact getItem_tuple_whole ht hs pl pu (by rw [hlen]; exact hw) ⟨.ref a, H, I, rfl, q1 hw⟩
  · refine HT.getItem_tuple_cut ht hs pl pu (by rw [hlen]; exact hw) ?_ (by rw [hlen]; exact hz)
    rw [hlen]
    have hg := Heap.get?_push_size s.heap (o := { cls := .type "tuple", data := .seq ((its.toArray.toList.drop (HT.sIx xs.length 0 lo)).take (HT.sIx xs.length xs.length hi - HT.sIx xs.length 0 lo)).toArray }) rfl
    refine ⟨.ref _, _, I.laid (t' := s.toks) (o := .frz { cls := .type "tuple", data := .seq ((its.toArray.toList.drop (HT.sIx xs.length 0 lo)).take (HT.sIx xs.length xs.length hi - HT.sIx xs.length 0 lo)).toArray } (.tup (cutV xs lo hi))) (fun b ob q => Heap.get?_push_of_some _ q) (Nat.le_refl _) ?_, rfl, q2 hw _ _ (I.hok.fresh (Nat.le_refl _)) rfl⟩
    exact ⟨hg, Nat.le_trans (cutV_length xs lo hi) hz, _, (r.drop _).take _, _, hg, rfl, 0, rfl⟩
def tRevS (K : PySem.W.Frag) (te : TE) : TE := fun σ H Q => te σ H fun x H1 => (∃ a xs, x = .ref a ∧ SqL K H1 a xs ∧ ∀ p, H1 p = none → Q (.ref p) (upd H1 p (.lst xs.reverse))) ∨ ∃ a xs, x = .ref a ∧ SqT K H1 a xs ∧ ∀ p (o : Obj), H1 p = none → o.dict = none → Q (.ref p) (upd H1 p (.frz o (.tup xs.reverse)))
theorem pe_revS {e : Expr} {te : TE} {k : Nat} {p1 p2 p3 pos : Pos} (he : PE X e te) : PE X (.Subscript e (.Slice none none (some (.UnaryOp .USub (.Constant (.int 1) k p1) p2)) p3) pos) (tRevS X.K te) := by
  refine ⟨fun pins s σ H Q I h => ?_⟩
  refine Subscript_ (thn (he.run pins s σ H _ I h) fun v s1 ⟨x, H1, I1, r1, q1⟩ => ?_)
  have hst : PO X (some (.UnaryOp .USub (.Constant (.int 1) k p1) p2)) (tPart (tUn (rU fun i => .int (-i)) (tC (.int 1)))) := po_some (pe_un un_neg pe_int)
  refine wpAny_Slice (thn (po_none.run pins s1 σ H1 (fun o H2 => o = none ∧ H2 = H1) I1 ⟨rfl, rfl⟩) fun vl s2 ⟨l, H2, I2, pl, el, e2⟩ => ?_)
  subst el e2
  refine thn (po_none.run pins s2 σ H2 (fun o H3 => o = none ∧ H3 = H2) I2 ⟨rfl, rfl⟩) fun vu s3 ⟨u, H3, I3, pu, eu, e3⟩ => ?_
  subst eu e3
  refine thn (hst.run pins s3 σ H3 (fun o H4 => o = some (-1) ∧ H4 = H3) I3 ⟨1, rfl, -1, rfl, rfl, rfl⟩) fun vs s4 ⟨o, H4, I4, ps, eo, e4⟩ => ?_
  subst eo e4
  have I5 : Inv X pins σ H4 { s4 with heap := s4.heap.push { cls := .type "slice", data := .fields #[vl, vu, vs] } } := I4.kept (t' := s4.toks) fun b ob q => Heap.get?_push_of_some _ q
  rcases q1 with ⟨a, xs, ex, hx, q⟩ | ⟨a, xs, ex, hx, q⟩
  · subst ex
    cases r1
    obtain ⟨its, r, ht, hz⟩ := I5.list hx
    have hlen := r.length
    show wpAny (model X.prog X.w) X.A (subscriptTail e (.Slice none none (some (.UnaryOp .USub (.Constant (.int 1) k p1) p2)) p3) (.ref a) (.ref s4.heap.objs.size)) (EP X pins σ Q) X.xe { s4 with heap := s4.heap.push { cls := .type "slice", data := .fields #[vl, vu, vs] } }
    refine tail_any (ops := [.ref a, .ref s4.heap.objs.size]) ht.isList.typeIs (PySem.slot_list_getitem.lookup) ?_ (by with_unfolding_all rfl)
    refine wpAny_getItem_list_slice ht.isList (Heap.IsSliceOf.new _ vl vu vs) pl pu ps (by decide) ?_ (by rw [List.size_toArray]; omega)
    rw [PySem.W.krv_pick]
    refine ⟨.ref _, _, I5.laid (t' := s4.toks) (o := .lst xs.reverse) (fun b ob q => Heap.get?_push_of_some _ q) (Nat.le_refl _) ?_, rfl, q _ (I5.hok.fresh (Nat.le_refl _))⟩
    exact ⟨by rw [List.length_reverse]; exact hz, _, 0, r.reverse, Heap.get?_push_size _ rfl⟩
  · subst ex
    cases r1
    obtain ⟨its, r, ht, hz⟩ := I5.tuple hx
    have hlen := r.length
    cases ps with
    | int i t =>
      show wpAny (model X.prog X.w) X.A (subscriptTail e (.Slice none none (some (.UnaryOp .USub (.Constant (.int 1) k p1) p2)) p3) (.ref a) (.ref s4.heap.objs.size)) (EP X pins σ Q) X.xe { s4 with heap := s4.heap.push { cls := .type "slice", data := .fields #[vl, vu, .int (-1) t] } }
      refine tail_any (ops := [.ref a, .ref s4.heap.objs.size]) (PyProof.Rows.IsTup.typeIs ht) (PyProof.Rows.slot_tuple_getitem.lookup) ?_ (by with_unfolding_all rfl)
      refine getItem_tuple_rev ht (Heap.IsSliceOf.new _ vl vu (.int (-1) t)) pl pu ?_ (by omega)
      have hg := Heap.get?_push_size (s4.heap.push { cls := .type "slice", data := .fields #[vl, vu, .int (-1) t] }) (o := { cls := .type "tuple", data := .seq its.reverse.toArray }) rfl
      refine ⟨.ref _, _, I5.laid (t' := s4.toks) (o := .frz { cls := .type "tuple", data := .seq its.reverse.toArray } (.tup xs.reverse)) (fun b ob q => Heap.get?_push_of_some _ q) (Nat.le_refl _) ?_, rfl, q _ _ (I5.hok.fresh (Nat.le_refl _)) rfl⟩
      exact ⟨hg, by rw [List.length_reverse]; exact hz, _, r.reverse, _, hg, rfl, 0, rfl⟩
end
end Dl
end

section
set_option Elab.async false
set_option linter.all false
set_option maxRecDepth 100000
set_option maxHeartbeats 1000000
/-! D15: subscripts, slices, attributes: soundness. -/
namespace Dl
open PySem PySem.Spec PyProof.Rows L2
section
variable {T : Pg} {ad : Ad} {b : List Nat} {W : WX} {X : Cx} {K : PySem.W.Frag} {C : List Nat → Nat → List D → Sto → R D}
variable {s : L2.St} {e : Env} {S : Sto} {H : Hp} {mu : List Addr} {nu : Addr → Prop}
/-- an item of values in flight -/
theorem RepOL.get : ∀ {vs : List V} {ds : List D} {fp : List Addr} {k : Nat} {d : D}, RepOL T ad H mu nu vs ds fp → ds[k]? = some d → ∃ v gp, vs[k]? = some v ∧ RepO T ad H mu nu v d gp ∧ (∀ x, x ∈ gp → x ∈ fp) ∧ (fp.Nodup → gp.Nodup)
  | _, _, _, _, _, .nil, h => by simp at h
  | _, _, _, 0, _, .cons h1 h2, h => by
    simp at h
    subst h
    exact ⟨_, _, rfl, h1, fun x m => List.mem_append_left _ m, fun n => (List.nodup_append.mp n).1⟩
  | _, _, _, k + 1, _, .cons h1 h2, h => by
    obtain ⟨v, gp, a1, a2, a3, a4⟩ := h2.get (k := k) (by simpa using h)
    exact ⟨v, gp, by simpa using a1, a2, fun x m => List.mem_append_right _ (a3 x m), fun n => a4 (List.nodup_append.mp n).2.1⟩
theorem RepL.get : ∀ {vs : List V} {ds : List D} {k : Nat} {d : D}, RepL T ad H mu nu vs ds → ds[k]? = some d → ∃ v, vs[k]? = some v ∧ Rep T ad H mu nu v d
  | _, _, _, _, .nil, h => by simp at h
  | _, _, 0, _, .cons r1 r2, h => by simp at h; subst h; exact ⟨_, rfl, r1⟩
  | _, _, k + 1, _, .cons r1 r2, h => by
    obtain ⟨v, a1, a2⟩ := r2.get (k := k) (by simpa using h)
    exact ⟨v, by simpa using a1, a2⟩
theorem RepOL.atI {vs : List V} {ds : List D} {fp : List Addr} {i : Int} {d : D} (r : RepOL T ad H mu nu vs ds fp) (h : L2.atI ds i = some d) : ∃ v gp, L2.atI vs i = some v ∧ RepO T ad H mu nu v d gp ∧ (∀ x, x ∈ gp → x ∈ fp) ∧ (fp.Nodup → gp.Nodup) := by
  unfold L2.atI at h ⊢
  rw [r.length]
  cases hk : ixN ds.length i with
  | none => rw [hk] at h; cases h
  | some k =>
    rw [hk] at h
    exact r.get h
def rSub (K : PySem.W.Frag) : R2 := fun x y H Q => rIxL K x y H Q ∨ rIxT K x y H Q
theorem ix_sub : IxR X (rSub X.K) := ix_list.or ix_tup
theorem subF_ok {v1 v2 : V} {d1 d2 : D} {f1 f2 : List Addr} {Q : VK} (st : Sta T ad b H mu nu s e S) (r1 : RepO T ad H mu nu v1 d1 f1) (r2 : RepO T ad H mu nu v2 d2 f2) (ow : Own nu (f1 ++ f2)) (p : Pst T ad b W s e (subF d1 d2 S) H mu nu (f1 ++ f2) Q) : rSub K v1 v2 H Q := by
  unfold subF at p
  split at p
  · rename_i o xs i hl
    obtain ⟨a, vs, gp, rfl, h1, h2, i1, i2⟩ := look_lst (K := K) st r1 hl
    rw [r2.int.1]
    cases hx : L2.atI xs i with
    | none => rw [hx] at p; exact p.elim
    | some d =>
      rw [hx] at p
      obtain ⟨v, g2, a1, a2, a3, a4⟩ := h2.atI hx
      exact .inl ⟨a, vs, i, v, rfl, rfl, .inl h1, a1, p.fin st a2 (ow.left.sub (fun x m => i1 x (a3 x m)) fun n => a4 (i2 n)) fun x m => List.mem_append_left _ (i1 x (a3 x m))⟩
  · rename_i xs i hl
    obtain ⟨a, vs, rfl, _, h1, h2⟩ := look_tup st r1 hl
    rw [r2.int.1]
    cases hx : L2.atI xs i with
    | none => rw [hx] at p; exact p.elim
    | some d =>
      rw [hx] at p
      obtain ⟨v, g2, a1, a2, a3, a4⟩ := h2.atI hx
      exact .inr ⟨a, vs, i, v, rfl, rfl, h1.sq, a1, p.fin st a2 (ow.left.sub a3 a4) fun x m => List.mem_append_left _ (a3 x m)⟩
  · exact p.elim
theorem sub_ok {x y : E} : ∀ s H Q, tE T ad b W (ev T C b (.sub x y)) s H Q → tOp (rSub K) (tE T ad b W (ev T C b x)) (tE T ad b W (ev T C b y)) s H Q := fun s H Q h => by
  obtain ⟨mu, nu, e, S, st, p⟩ := h
  rw [ev] at p
  exact two_ok (g := fun x y S => subF x y S) st p fun v1 d1 f1 v2 d2 f2 S2 H2 mu2 nu2 x2 st2 r1 r2 ow p2 => subF_ok st2 r1 r2 ow p2
/-! ### slices -/
theorem RepOL.take : ∀ {vs : List V} {ds : List D} {fp : List Addr} (n : Nat), RepOL T ad H mu nu vs ds fp → ∃ gp, RepOL T ad H mu nu (vs.take n) (ds.take n) gp ∧ (∀ x, x ∈ gp → x ∈ fp) ∧ (fp.Nodup → gp.Nodup)
  | _, _, _, 0, _ => ⟨[], .nil, fun _ m => absurd m List.not_mem_nil, fun _ => List.nodup_nil⟩
  | _, _, _, _ + 1, .nil => ⟨[], .nil, fun _ m => m, fun n => n⟩
  | _, _, _, n + 1, .cons (fp := f) h1 h2 => by
    obtain ⟨gp, a1, a2, a3⟩ := h2.take n
    refine ⟨f ++ gp, .cons h1 a1, fun x m => ?_, fun nd => ?_⟩
    · rcases List.mem_append.mp m with m | m
      · exact List.mem_append_left _ m
      · exact List.mem_append_right _ (a2 x m)
    · obtain ⟨b1, b2, b3⟩ := List.nodup_append.mp nd
      exact List.nodup_append.mpr ⟨b1, a3 b2, fun x hx y hy => b3 x hx y (a2 y hy)⟩
theorem RepOL.drop : ∀ {vs : List V} {ds : List D} {fp : List Addr} (n : Nat), RepOL T ad H mu nu vs ds fp → ∃ gp, RepOL T ad H mu nu (vs.drop n) (ds.drop n) gp ∧ (∀ x, x ∈ gp → x ∈ fp) ∧ (fp.Nodup → gp.Nodup)
  | _, _, fp, 0, h => ⟨fp, h, fun _ m => m, fun n => n⟩
  | _, _, _, _ + 1, .nil => ⟨[], .nil, fun _ m => m, fun n => n⟩
  | _, _, _, n + 1, .cons h1 h2 => by
    obtain ⟨gp, a1, a2, a3⟩ := h2.drop n
    exact ⟨gp, a1, fun x m => List.mem_append_right _ (a2 x m), fun nd => a3 (List.nodup_append.mp nd).2.1⟩
theorem RepOL.rev : ∀ {vs : List V} {ds : List D} {fp : List Addr}, RepOL T ad H mu nu vs ds fp → ∃ gp, RepOL T ad H mu nu vs.reverse ds.reverse gp ∧ (∀ x, x ∈ gp → x ∈ fp) ∧ (fp.Nodup → gp.Nodup)
  | _, _, _, .nil => ⟨[], .nil, fun _ m => m, fun n => n⟩
  | _, _, _, .cons (fp := f) h1 h2 => by
    obtain ⟨gp, a1, a2, a3⟩ := h2.rev
    have r1 := RepOL.cons h1 .nil
    rw [List.append_nil] at r1
    refine ⟨gp ++ f, ?_, fun x m => ?_, fun nd => ?_⟩
    · rw [List.reverse_cons, List.reverse_cons]
      exact a1.app r1
    · rcases List.mem_append.mp m with m | m
      · exact List.mem_append_right _ (a2 x m)
      · exact List.mem_append_left _ m
    · obtain ⟨b1, b2, b3⟩ := List.nodup_append.mp nd
      exact List.nodup_append.mpr ⟨a3 b2, b1, fun x hx y hy z => b3 y hy x (a2 x hx) z.symm⟩
def rSlc (K : PySem.W.Frag) : V → Option Int → Option Int → Hp → VK → Prop := fun x lo hi H Q => rSlL K x lo hi H Q ∨ rSlZ K x lo hi H Q
theorem sl_slc : SlR X (rSlc X.K) := sl_list.or sl_tupZ
theorem slcF_ok {v : V} {d : D} {fp : List Addr} {lo hi : Option Int} {Q : VK} (st : Sta T ad b H mu nu s e S) (r : RepO T ad H mu nu v d fp) (ow : Own nu fp) (p : Pst T ad b W s e (slcF d lo hi S) H mu nu fp Q) : rSlc K v lo hi H Q := by
  unfold slcF at p
  split at p
  · rename_i o xs hl
    obtain ⟨a, vs, gp, rfl, h1, h2, i1, i2⟩ := look_lst (K := K) st r hl
    refine .inl ⟨a, vs, rfl, .inl h1, fun q hq => ?_⟩
    obtain ⟨g1, a1, a2, a3⟩ := h2.drop (HT.sIx xs.length 0 lo)
    obtain ⟨g2, b1, b2, b3⟩ := a1.take (HT.sIx xs.length xs.length hi - HT.sIx xs.length 0 lo)
    have e1 : cutV vs lo hi = (vs.drop (HT.sIx xs.length 0 lo)).take (HT.sIx xs.length xs.length hi - HT.sIx xs.length 0 lo) := by
      unfold cutV
      rw [h2.length]
    rw [e1]
    exact p.lst st b1 (ow.sub (fun x m => i1 x (a2 x (b2 x m))) fun n => b3 (a3 (i2 n))) (fun x m => i1 x (a2 x (b2 x m))) hq
  · rename_i xs hl
    obtain ⟨a, vs, rfl, na, h1, h2⟩ := look_tup st r hl
    obtain ⟨g1, a1, a2, a3⟩ := h2.drop (HT.sIx xs.length 0 lo)
    obtain ⟨g2, b1, b2, b3⟩ := a1.take (HT.sIx xs.length xs.length hi - HT.sIx xs.length 0 lo)
    have e1 : cutV vs lo hi = (vs.drop (HT.sIx xs.length 0 lo)).take (HT.sIx xs.length xs.length hi - HT.sIx xs.length 0 lo) := by
      unfold cutV
      rw [h2.length]
    refine .inr ⟨a, vs, rfl, h1.sq, fun w => ?_, fun w q o hq ho => ?_⟩
    · rw [h2.length] at w
      have e2 : cutD xs lo hi = xs := by
        unfold cutD
        rw [w.1, w.2]
        simp
      rw [e2] at p
      exact p.fin st (.tup na h1 h2) ow fun x m => m
    · rw [e1]
      exact p.tup st b1 (ow.sub (fun x m => a2 x (b2 x m)) fun n => b3 (a3 n)) (fun x m => a2 x (b2 x m)) hq ho
  · exact p.elim
/-- a slice's part -/
def tOI (T : Pg) (ad : Ad) (b : List Nat) (W : WX) (C : List Nat → Nat → List D → Sto → R D) : Option E → TO
  | none => tNoPart
  | some x => tPart (tE T ad b W (ev T C b x))
/-- an int or nothing, then the rest -/
theorem tO_bind {o : Option E} {f : Option Int → Sto → R D} {Q : VK} {K2 : Option Int → Hp → Prop} {f0 : List Addr} (st : Sta T ad b H mu nu s e S) (p : Pst T ad b W s e ((evO T C b o e S).bind f) H mu nu f0 Q)
    (k : ∀ i S1 H1 mu1 nu1, Stp H mu nu H1 mu1 nu1 → Sta T ad b H1 mu1 nu1 s e S1 → Pst T ad b W s e (f i S1) H1 mu1 nu1 f0 Q → K2 i H1) : tOI T ad b W C o s H K2 := by
  cases o with
  | none => exact k none S H mu nu .refl st p
  | some x =>
    rw [evO] at p
    show tE T ad b W (ev T C b x) s H fun v H1 => ∃ i, v = .int i ∧ K2 (some i) H1
    refine ⟨mu, nu, e, S, st, ?_⟩
    cases h : ev T C b x e S with
    | ok d S1 =>
      rw [h] at p
      intro v H1 mu1 nu1 fp x1 st1 ro ow fr
      cases d with
      | int i =>
        exact ⟨i, ro.int.1, k (some i) S1 H1 mu1 nu1 x1 st1 (Pst.step x1 (fun a m => .inl m) p)⟩
      | _ => exact p.elim
    | ex c xs S1 =>
      rw [h] at p
      exact p
    | er =>
      rw [h] at p
      exact p.elim
theorem slc_ok {x : E} {lo hi : Option E} : ∀ s H Q, tE T ad b W (ev T C b (.slc x lo hi)) s H Q → tSl (rSlc K) (tE T ad b W (ev T C b x)) (tOI T ad b W C lo) (tOI T ad b W C hi) s H Q := fun s H Q h => by
  obtain ⟨mu, nu, e, S, st, p⟩ := h
  rw [ev] at p
  refine tE_bind st p fun v d S1 H1 mu1 nu1 fp x1 st1 ro ow fr p1 => ?_
  refine tO_bind st1 p1 fun l S2 H2 mu2 nu2 x2 st2 p2 => ?_
  refine tO_bind st2 p2 fun u S3 H3 mu3 nu3 x3 st3 p3 => ?_
  have x4 := x2.trans x3
  exact slcF_ok st3 (ro.keeps (x4.keepsO st1.sub)) ⟨ow.1, fun a m => x4.grow a (ow.2 a m)⟩ p3
theorem rev_ok {x : E} : ∀ s H Q, tE T ad b W (ev T C b (.rev x)) s H Q → tRevS K (tE T ad b W (ev T C b x)) s H Q := fun s H Q h => by
  obtain ⟨mu, nu, e, S, st, p⟩ := h
  rw [ev] at p
  refine tE_bind st p fun v d S1 H1 mu1 nu1 fp x1 st1 r ow fr p => ?_
  unfold revF at p
  split at p
  · rename_i o xs hl
    obtain ⟨a, vs, gp, rfl, h1, h2, i1, i2⟩ := look_lst (K := K) st1 r hl
    obtain ⟨g1, a1, a2, a3⟩ := h2.rev
    exact .inl ⟨a, vs, rfl, .inl h1, fun q hq => p.lst st1 a1 (ow.sub (fun x m => i1 x (a2 x m)) fun n => a3 (i2 n)) (fun x m => i1 x (a2 x m)) hq⟩
  · rename_i xs hl
    obtain ⟨a, vs, rfl, na, h1, h2⟩ := look_tup st1 r hl
    obtain ⟨g1, a1, a2, a3⟩ := h2.rev
    exact .inr ⟨a, vs, rfl, h1.sq, fun q o hq ho => p.tup st1 a1 (ow.sub a2 a3) a2 hq ho⟩
  · exact p.elim
theorem neg_ok {x : E} : ∀ s H Q, tE T ad b W (ev T C b (.neg x)) s H Q → tUn (rU fun i => .int (-i)) (tE T ad b W (ev T C b x)) s H Q := fun s H Q h => by
  obtain ⟨mu, nu, e, S, st, p⟩ := h
  rw [ev] at p
  refine tE_bind st p fun v d S1 H1 mu1 nu1 fp x1 st1 r ow fr p => ?_
  cases d with
  | int i => exact ⟨i, r.int.1, p.val st1 (.int _)⟩
  | _ => exact p.elim

/-! ### tests -/
theorem truth_ok {v : V} {d : D} {fp : List Addr} {c : Bool} (st : Sta T ad b H mu nu s e S) (ro : RepO T ad H mu nu v d fp) (h : truth S d = some c) : TruV K v H c := by
  unfold truth at h
  split at h
  · rename_i hl
    cases h
    cases d with
    | non => rw [ro.non.1]; rfl
    | ref n =>
      obtain ⟨a, rfl, rfl, ha⟩ := ro.ref
      cases st.cel n a _ ha hl
    | _ => cases hl
  · rename_i hl
    cases h
    cases d with
    | bl _ => cases hl; rw [ro.bl.1]; rfl
    | ref n =>
      obtain ⟨a, rfl, rfl, ha⟩ := ro.ref
      cases st.cel n a _ ha hl
    | _ => cases hl
  · rename_i hl
    cases h
    cases d with
    | int _ => cases hl; rw [ro.int.1]; rfl
    | ref n =>
      obtain ⟨a, rfl, rfl, ha⟩ := ro.ref
      cases st.cel n a _ ha hl
    | _ => cases hl
  · rename_i x hl
    split at h
    · rename_i hz
      cases h
      rw [look_str hl st.cel ro]
      refine ⟨hz, ?_⟩
      show (x.length != 0) = ((x.length : Int) != 0)
      by_cases h0 : x.length = 0
      · rw [h0]; rfl
      · have h1 : (x.length : Int) ≠ 0 := by omega
        rw [bne_iff_ne.mpr h0, bne_iff_ne.mpr h1]
    · cases h
  · rename_i xs hl
    cases h
    obtain ⟨a, vs, rfl, _, h1, h2⟩ := look_tup st ro hl
    refine .inr (.inl ⟨vs, h1.sq, ?_⟩)
    have e := h2.length
    cases vs <;> cases xs <;> first | rfl | simp at e
  · rename_i o xs hl
    cases h
    obtain ⟨a, vs, gp, rfl, h1, h2, _, _⟩ := look_lst (K := K) st ro hl
    refine .inl ⟨vs, .inl h1, ?_⟩
    have e := h2.length
    cases vs <;> cases xs <;> first | rfl | simp at e
  · rename_i o ks xs hl
    cases h
    obtain ⟨a, kvs, rfl, h1, rfl⟩ := look_dic st ro hl
    refine .inr (.inr ⟨kvs, h1, ?_⟩)
    cases kvs <;> rfl
  · cases h
def tTr (K : PySem.W.Frag) (ta : TE) : TT := fun σ H Q => ta σ H fun x H' => ∃ k, TruV K x H' k ∧ Q k H'
theorem qe_ok {x : E} : ∀ s H Q, tQ T ad b W (evT T C b (.e x)) s H Q → tTr K (tE T ad b W (ev T C b x)) s H Q := fun s H Q h => by
  obtain ⟨mu, nu, e, S, st, p⟩ := h
  rw [evT] at p
  refine tE_bindB st p fun v d S1 H1 mu1 nu1 fp x1 st1 r ow fr p => ?_
  cases ht : truth S1 d with
  | none => rw [ht] at p; exact p.elim
  | some c =>
    rw [ht] at p
    exact ⟨c, truth_ok st1 r ht, p H1 mu1 nu1 .refl st1⟩
/-- a comparison as a test -/
theorem qcmp_ok {x : E} {te : TE} (h0 : ∀ s H Q, tE T ad b W (ev T C b x) s H Q → te s H Q) (hb : ∀ e S d S1, ev T C b x e S = .ok d S1 → ∃ c, d = .bl c) : ∀ s H Q, tQ T ad b W (evT T C b (.e x)) s H Q → tTest te s H Q := fun s H Q h => by
  obtain ⟨mu, nu, e, S, st, p⟩ := h
  rw [evT] at p
  refine h0 _ _ _ ⟨mu, nu, e, S, st, ?_⟩
  cases h : ev T C b x e S with
  | ok d S1 =>
    rw [h] at p
    obtain ⟨c, rfl⟩ := hb e S d S1 h
    intro v H1 mu1 nu1 fp x1 st1 ro ow fr
    exact ⟨c, ro.bl.1, p H1 mu1 nu1 x1 st1⟩
  | ex c xs S1 => rw [h] at p; exact p
  | er => rw [h] at p; exact p.elim
theorem R.ofO_bl {o : Option Bool} {S S1 : Sto} {d : D} (h : R.ofO (o.map D.bl) S = .ok d S1) : ∃ c, d = .bl c := by
  cases o with
  | none => cases h
  | some c => cases h; exact ⟨c, rfl⟩
theorem R.bind_inv {α β : Type} {r : R α} {f : α → Sto → R β} {d : β} {S : Sto} (h : r.bind f = .ok d S) : ∃ a S1, r = .ok a S1 ∧ f a S1 = .ok d S := by
  cases r with
  | ok a S1 => exact ⟨a, S1, rfl, h⟩
  | ex c xs S1 => cases h
  | er => cases h
theorem cmp_bl {o : CmpOp} {x y : E} : ∀ e S d S1, ev T C b (.cmp o x y) e S = .ok d S1 → ∃ c, d = .bl c := fun e S d S1 h => by
  rw [ev] at h
  obtain ⟨a, S2, _, h⟩ := R.bind_inv h
  obtain ⟨a2, S3, _, h⟩ := R.bind_inv h
  exact R.ofO_bl h
theorem chn_bl {o o2 : CmpOp} {x y z : E} : ∀ e S d S1, ev T C b (.chn o o2 x y z) e S = .ok d S1 → ∃ c, d = .bl c := fun e S d S1 h => by
  rw [ev] at h
  obtain ⟨a, S2, _, h⟩ := R.bind_inv h
  obtain ⟨a2, S3, _, h⟩ := R.bind_inv h
  split at h
  · obtain ⟨a3, S4, _, h⟩ := R.bind_inv h
    exact R.ofO_bl h
  · cases h; exact ⟨_, rfl⟩
  · cases h
end
end Dl
end

section
set_option Elab.async false
set_option linter.all false
set_option maxRecDepth 100000
set_option maxHeartbeats 1000000
/-! D16: tests, attributes, changes of cells, planting. -/
namespace Dl
open PySem PySem.Spec PyProof.Rows L2
section
variable {T : Pg} {ad : Ad} {b : List Nat} {W : WX} {X : Cx} {K : PySem.W.Frag} {C : List Nat → Nat → List D → Sto → R D}
variable {s : L2.St} {e : Env} {S : Sto} {H : Hp} {mu : List Addr} {nu : Addr → Prop}
/-! ### tests -/
/-- a value of which the truth alone is used -/
def tQV (T : Pg) (ad : Ad) (b : List Nat) (W : WX) (C : List Nat → Nat → List D → Sto → R D) (K : PySem.W.Frag) (q : Q) : TE := fun s H P => tQ T ad b W (evT T C b q) s H fun c H' => ∀ v, TruV K v H' c → P v H'
theorem qnot_ok {x : Q} : ∀ s H P, tQ T ad b W (evT T C b (.not x)) s H P → tNot (tQ T ad b W (evT T C b x)) s H P := fun s H P h => by
  obtain ⟨mu, nu, e, S, st, p⟩ := h
  rw [evT] at p
  exact tQ_bindB st p fun c S1 H1 mu1 nu1 x1 st1 p1 => p1 H1 mu1 nu1 .refl st1
theorem qand_ok {x y : Q} : ∀ s H P, tQ T ad b W (evT T C b (.and x y)) s H P → tAnd (tQ T ad b W (evT T C b x)) (tQ T ad b W (evT T C b y)) s H P := fun s H P h => by
  obtain ⟨mu, nu, e, S, st, p⟩ := h
  rw [evT] at p
  refine tQ_bindB st p fun c S1 H1 mu1 nu1 x1 st1 p1 => ?_
  cases c with
  | true => exact ⟨mu1, nu1, e, S1, st1, p1⟩
  | false => exact p1 H1 mu1 nu1 .refl st1
theorem qor_ok {x y : Q} : ∀ s H P, tQ T ad b W (evT T C b (.or x y)) s H P → tOr (tQ T ad b W (evT T C b x)) (tQ T ad b W (evT T C b y)) s H P := fun s H P h => by
  obtain ⟨mu, nu, e, S, st, p⟩ := h
  rw [evT] at p
  refine tQ_bindB st p fun c S1 H1 mu1 nu1 x1 st1 p1 => ?_
  cases c with
  | true => exact p1 H1 mu1 nu1 .refl st1
  | false => exact ⟨mu1, nu1, e, S1, st1, p1⟩
theorem not_ok {x : Q} : ∀ s H P, tE T ad b W (ev T C b (.not x)) s H P → tNotT K (tQV T ad b W C K x) s H P := fun s H P h => by
  obtain ⟨mu, nu, e, S, st, p⟩ := h
  rw [ev] at p
  exact tQ_bind st p fun c S1 H1 mu1 nu1 x1 st1 p1 v hv => ⟨c, hv, p1.val st1 (.bl _)⟩
/-- the same as values -/
theorem vnot_ok {x : Q} : ∀ s H P, tQV T ad b W C K (.not x) s H P → tNotT K (tQV T ad b W C K x) s H P := fun s H P h => by
  obtain ⟨mu, nu, e, S, st, p⟩ := h
  rw [evT] at p
  exact tQ_bindB st p fun c S1 H1 mu1 nu1 x1 st1 p1 v hv => ⟨c, hv, p1 H1 mu1 nu1 .refl st1 _ rfl⟩
theorem vand_ok {x y : Q} : ∀ s H P, tQV T ad b W C K (.and x y) s H P → tAndT K (tQV T ad b W C K x) (tQV T ad b W C K y) s H P := fun s H P h => by
  obtain ⟨mu, nu, e, S, st, p⟩ := h
  rw [evT] at p
  refine tQ_bindB st p fun c S1 H1 mu1 nu1 x1 st1 p1 v hv => ⟨c, hv, ?_⟩
  cases c with
  | true => exact ⟨mu1, nu1, e, S1, st1, p1⟩
  | false => exact p1 H1 mu1 nu1 .refl st1 v hv
theorem vor_ok {x y : Q} : ∀ s H P, tQV T ad b W C K (.or x y) s H P → tOrT K (tQV T ad b W C K x) (tQV T ad b W C K y) s H P := fun s H P h => by
  obtain ⟨mu, nu, e, S, st, p⟩ := h
  rw [evT] at p
  refine tQ_bindB st p fun c S1 H1 mu1 nu1 x1 st1 p1 v hv => ⟨c, hv, ?_⟩
  cases c with
  | true => exact p1 H1 mu1 nu1 .refl st1 v hv
  | false => exact ⟨mu1, nu1, e, S1, st1, p1⟩
theorem ve_ok {x : E} : ∀ s H P, tQV T ad b W C K (.e x) s H P → tE T ad b W (ev T C b x) s H P := fun s H P h => by
  obtain ⟨mu, nu, e, S, st, p⟩ := h
  rw [evT] at p
  refine tE_bindB st p fun v d S1 H1 mu1 nu1 fp x1 st1 r ow fr p => ?_
  cases ht : truth S1 d with
  | none => rw [ht] at p; exact p.elim
  | some c =>
    rw [ht] at p
    exact p H1 mu1 nu1 .refl st1 v (truth_ok st1 r ht)
theorem and_ok {x y : E} : ∀ s H P, tE T ad b W (ev T C b (.and x y)) s H P → tAndV (tE T ad b W (ev T C b x)) (tE T ad b W (ev T C b y)) s H P := fun s H P h => by
  obtain ⟨mu, nu, e, S, st, p⟩ := h
  rw [ev] at p
  refine tE_bind st p fun v d S1 H1 mu1 nu1 fp x1 st1 r ow fr p => ?_
  cases d with
  | bl c =>
    refine ⟨c, r.bl.1, ?_⟩
    have ef := r.bl.2
    subst ef
    cases c with
    | true => exact ⟨mu1, nu1, e, S1, st1, p⟩
    | false => exact p.val st1 (.bl _)
  | _ => exact p.elim
theorem or_ok {x y : E} : ∀ s H P, tE T ad b W (ev T C b (.or x y)) s H P → tOrV (tE T ad b W (ev T C b x)) (tE T ad b W (ev T C b y)) s H P := fun s H P h => by
  obtain ⟨mu, nu, e, S, st, p⟩ := h
  rw [ev] at p
  refine tE_bind st p fun v d S1 H1 mu1 nu1 fp x1 st1 r ow fr p => ?_
  cases d with
  | bl c =>
    refine ⟨c, r.bl.1, ?_⟩
    have ef := r.bl.2
    subst ef
    cases c with
    | true => exact p.val st1 (.bl _)
    | false => exact ⟨mu1, nu1, e, S1, st1, p⟩
  | _ => exact p.elim
theorem ite_ok {c : Q} {x y : E} : ∀ s H P, tE T ad b W (ev T C b (.ite c x y)) s H P → tIf (tQ T ad b W (evT T C b c)) (tE T ad b W (ev T C b x)) (tE T ad b W (ev T C b y)) s H P := fun s H P h => by
  obtain ⟨mu, nu, e, S, st, p⟩ := h
  rw [ev] at p
  refine tQ_bind st p fun c S1 H1 mu1 nu1 x1 st1 p1 => ?_
  cases c with
  | true => exact ⟨mu1, nu1, e, S1, st1, p1⟩
  | false => exact ⟨mu1, nu1, e, S1, st1, p1⟩
theorem chn_ok {o o2 : CmpOp} {x y z : E} : ∀ s H P, tE T ad b W (ev T C b (.chn o o2 x y z)) s H P → tChain (rCmp K o) (rCmp K o2) (tE T ad b W (ev T C b x)) (tE T ad b W (ev T C b y)) (tE T ad b W (ev T C b z)) s H P := fun s H P h => by
  obtain ⟨mu, nu, e, S, st, p⟩ := h
  rw [ev] at p
  refine two_ok (g := fun x y S => (match cmpF o x y S with
      | some true => (ev T C b z e S).bind fun z S => R.ofO ((cmpF o2 y z S).map .bl) S
      | some false => .ok (.bl false) S
      | none => .er)) st p fun v1 d1 f1 v2 d2 f2 S2 H2 mu2 nu2 x2 st2 r1 r2 ow p2 => ?_
  cases hc : cmpF o d1 d2 S2 with
  | none => rw [hc] at p2; exact p2.elim
  | some c =>
    rw [hc] at p2
    refine cmpF_ok st2 r1 r2 hc ⟨c, rfl, ?_⟩
    cases c with
    | false => exact p2.val st2 (.bl _)
    | true =>
      show tE T ad b W (ev T C b z) s H2 _
      refine ⟨mu2, nu2, e, S2, st2, ?_⟩
      cases hz : ev T C b z e S2 with
      | ok d3 S3 =>
        dsimp only at p2
        rw [hz] at p2
        intro v3 H3 mu3 nu3 f3 x3 st3 r3 ow3 fr3
        have p3 : Pst T ad b W s e (R.ofO ((cmpF o2 d2 d3 S3).map .bl) S3) H2 mu2 nu2 (f1 ++ f2) P := p2
        cases h2 : cmpF o2 d2 d3 S3 with
        | none => rw [h2] at p3; exact p3.elim
        | some c2 =>
          rw [h2] at p3
          exact cmpF_ok st3 (r2.keeps (x3.keepsO st2.sub)) r3 h2 ((p3.step x3 fun a m => .inl m).val st3 (.bl c2))
      | ex c xs S3 =>
        dsimp only at p2
        rw [hz] at p2
        exact p2
      | er =>
        dsimp only at p2
        rw [hz] at p2
        exact p2.elim

/-! ### attributes -/
theorem zip_look {nm : Nat → Str} {f : Nat} : ∀ {fs : List Nat} {vs : List V} {i : Nat} {v : V}, (fs.map nm).Nodup → fs.idxOf? f = some i → vs[i]? = some v → ((fs.map nm).zip vs).lookup (nm f) = some v
  | [], _, _, _, _, h, _ => by simp at h
  | g :: fs, [], _, _, _, _, h => by simp at h
  | g :: fs, w :: vs, i, v, nd, h, hv => by
    rw [List.map_cons, List.zip_cons_cons]
    rw [List.map_cons] at nd
    obtain ⟨n1, n2⟩ := List.nodup_cons.mp nd
    rw [List.idxOf?_cons] at h
    by_cases e : g = f
    · subst e
      simp at h
      subst h
      simp at hv
      subst hv
      simp [List.lookup]
    · have hb : (g == f) = false := beq_eq_false_iff_ne.mpr e
      rw [hb] at h
      simp only [Bool.false_eq_true, if_false, Option.map_eq_some_iff] at h
      obtain ⟨j, hj, rfl⟩ := h
      have hm : nm f ∈ fs.map nm := by
        refine List.mem_map.mpr ⟨f, ?_, rfl⟩
        have := List.idxOf?_eq_none_iff (l := fs) (a := f)
        by_cases hh : f ∈ fs
        · exact hh
        · rw [this.mpr hh] at hj; cases hj
      have hne : (nm f == nm g) = false := beq_eq_false_iff_ne.mpr fun z => n1 (z ▸ hm)
      simp only [List.lookup, hne]
      exact zip_look n2 hj (by simpa using hv)
/-- what is asked of the fields' names -/
structure Fnf (T : Pg) (ad : Ad) (K : PySem.W.Frag) : Prop where
  noat : ∀ (c : Nat) (k : Cl) (f : Nat), T.cs[c]? = some k → k.exc = false → f ∈ k.fs → NoAttr K (ad.cl c) (ad.nm f)
  nd : ∀ (c : Nat) (k : Cl), T.cs[c]? = some k → (k.fs.map ad.nm).Nodup
  few : ∀ (c : Nat) (k : Cl), T.cs[c]? = some k → k.fs.length < 1000
theorem mem_of_idx {f i : Nat} {fs : List Nat} (h : fs.idxOf? f = some i) : f ∈ fs := by
  by_cases hh : f ∈ fs
  · exact hh
  · rw [(List.idxOf?_eq_none_iff (l := fs) (a := f)).mpr hh] at h; cases h
theorem fnm_of {c : Nat} {k : Cl} (h : T.cs[c]? = some k) : fnm T ad c = k.fs.map ad.nm := by
  unfold fnm
  rw [h]
theorem look_ins {o : Bool} {d : D} {v : V} {fp : List Addr} {c : Nat} {xs : List D} (st : Sta T ad b H mu nu s e S) (ro : RepO T ad H mu nu v d fp) (h : look S d = some (.ins o c xs)) :
    ∃ a dx vs gp, v = .ref a ∧ T.isI c ∧ H a = some (.ins (ad.cl c) dx ((fnm T ad c).zip vs)) ∧ vs.length ≤ (fnm T ad c).length ∧ RepOL T ad H mu nu vs xs gp ∧ (∀ x, x ∈ gp → x ∈ fp) ∧ (fp.Nodup → gp.Nodup) := by
  cases d with
  | ref n =>
    obtain ⟨a, rfl, rfl, ha⟩ := ro.ref
    cases st.cel n a _ ha h with
    | ins hI e l r => exact ⟨_, _, _, [], rfl, hI, e, l, Rep.ofL _ r, fun _ z => z, fun z => z⟩
  | ins o' c' xs =>
    cases h
    cases ro with
    | of r => cases r with | ins hI n e l r => exact ⟨_, _, _, [], rfl, hI, e, l, Rep.ofL _ r, fun _ z => z, fun z => z⟩
    | ins hI n e l r => exact ⟨_, _, _, _, rfl, hI, e, l, r, fun _ z => List.mem_cons_of_mem _ z, fun z => (List.nodup_cons.mp z).2⟩
  | _ => cases h
theorem attr_ok (cf : Clf T ad K) (ff : Fnf T ad K) {x : E} {f : Nat} : ∀ s H P, tE T ad b W (ev T C b (.attr x f)) s H P → tFld K (tE T ad b W (ev T C b x)) (ad.nm f) s H P := fun s H P h => by
  obtain ⟨mu, nu, e, S, st, p⟩ := h
  rw [ev] at p
  refine tE_bind st p fun v d S1 H1 mu1 nu1 fp x1 st1 r ow fr p => ?_
  unfold attrF at p
  split at p
  · rename_i o c xs hl
    obtain ⟨a, dx, vs, gp, rfl, hI, ha, hle, rl, i1, i2⟩ := look_ins st1 r hl
    split at p
    · rename_i k hk
      obtain ⟨k', hk', hx⟩ := id hI
      rw [hk] at hk'
      cases hk'
      cases hi : k.fs.idxOf? f with
      | none => rw [hi] at p; exact p.elim
      | some i =>
        rw [hi] at p
        cases hd : xs[i]? with
        | none =>
          have p' : Pst T ad b W s e (R.ofO (xs[i]?) S1) H1 mu1 nu1 fp P := p
          rw [hd] at p'
          exact p'.elim
        | some d =>
          have p' : Pst T ad b W s e (R.ofO (xs[i]?) S1) H1 mu1 nu1 fp P := p
          rw [hd] at p'
          obtain ⟨v, g2, a1, a2, a3, a4⟩ := rl.get hd
          have e1 := fnm_of (ad := ad) hk
          exact ⟨a, ad.cl c, dx, _, v, rfl, ha, (cf.cls c hI).1, ff.noat c k f hk hx (mem_of_idx hi), by rw [e1]; exact zip_look (ff.nd c k hk) hi a1,
            p'.fin st1 a2 (ow.sub (fun y m => i1 y (a3 y m)) fun n => a4 (i2 n)) fun y m => i1 y (a3 y m)⟩
    · exact p.elim
  · exact p.elim
theorem xat_ok (ff : Fnf T ad K) {i f c0 : Nat} {a dx : Addr} (hxa : ad.xa = some (a, dx, c0, i)) : ∀ s H P, tE T ad b W (ev T C b (.xat i f)) s H P → tXf a (.ref (ad.cl c0)) (some dx) (ad.cl c0) (ad.nm f) (tVar i) s H P := fun s H P h => by
  obtain ⟨mu, nu, e, S, st, p⟩ := h
  rw [ev] at p
  unfold xatF at p
  split at p
  · rename_i c xs he
    obtain ⟨v, h1, r⟩ := st.env i _ he
    cases r with
    | of r => cases r
    | exc hx nn ha rl =>
      rw [hxa] at hx
      cases hx
      split at p
      · rename_i k hk
        cases hi : k.fs.idxOf? f with
        | none => rw [hi] at p; exact p.elim
        | some i =>
          rw [hi] at p
          have p' : Pst T ad b W s e (R.ofO (xs[i]?) S) H mu nu [] P := p
          cases hd : xs[i]? with
          | none =>
            rw [hd] at p'
            exact p'.elim
          | some d =>
            rw [hd] at p'
            obtain ⟨v, a1, a2⟩ := rl.get hd
            have e1 := fnm_of (ad := ad) hk
            exact ⟨_, h1, rfl, rfl, dx, _, v, rfl, ha, by rw [e1]; exact zip_look (ff.nd _ k hk) hi a1, p'.val st a2⟩
      · exact p.elim
  · exact p.elim
end
end Dl
end

section
set_option Elab.async false
set_option linter.all false
set_option maxRecDepth 100000
set_option maxHeartbeats 1000000
/-! D17: index, append, pop; cells that change. -/
namespace Dl
open PySem PySem.Spec PyProof.Rows L2
/-! ### t.index(x) -/
def rIndexT (K : PySem.W.Frag) : V → List V → Hp → VK → Prop := fun x xs H Q => ∃ (a : Addr) (y : V) (d : PyData) (ds : List PyData) (j : Nat) (z : PyData), x = V.ref a ∧ xs = [y] ∧ Dp K H (V.ref a) (.tuple ds) ∧ Dp K H y d ∧
  SeqAt.shaped (.tuple ds) = true ∧ SeqAt.shaped d = true ∧ ds[j]? = some z ∧ PyData.eqv z d = true ∧ (∀ (m : Nat) (z' : PyData), m < j → ds[m]? = some z' → PyData.eqv z' d = false) ∧ Q (.int (j : Nat)) H
theorem mt_indexT {X : Cx} (hu : X.A.units + 65 < cLine) : MtR X "tuple.index" (rIndexT X.K) := by
  intro pins s σ H x xs v us Q I rx rxs h
  obtain ⟨a, y, d, ds, j, z, rfl, rfl, hl, hy, sl, sd, hz, hzj, hno, q⟩ := h
  cases rx
  cases rxs with
  | cons ry rt =>
    rename_i uy ut
    cases rt
    obtain ⟨bs, r1⟩ := Dp.reads I d y uy hy ry
    have hxs : PyData.canLayAll0 ds = true := SeqAt.canLay_of_shaped sl
    have hroom : X.A.units + 1 + min (PyData.depthAll ds) d.depth < cLine := room_in_shaped sd hu
    cases hl with
    | tup hs ha =>
      obtain ⟨its, rv, ⟨⟨cls, dd, data, sls⟩, ho, hc, n, hdt⟩, hlen⟩ := I.tuple hs
      simp only at hc hdt
      subst hc hdt
      obtain ⟨as, h4⟩ := Dp.readsAll I ds _ its ha rv
      have hn : its.length = ds.length := SeqAt.ReadsAll.length ds its as h4
      have hmap : its.map (SeqAt.readOf s.heap) = ds := SeqAt.readsAll_map ds its as hxs h4
      have hvl := rv.length
      have hsl := sizeLine_eq
      obtain ⟨hjd, _⟩ := List.getElem?_eq_some_iff.mp hz
      have hjl : j < its.length := by omega
      have hj : j < its.toArray.size := by simpa using hjl
      have at_ : ∀ (m : Nat) (hm : m < its.toArray.size) (z' : PyData), ds[m]? = some z' → SeqAt.readOf s.heap its.toArray[m] = z' := by
        intro m hm z' hz'
        have hml : m < its.length := by simpa using hm
        rw [← hmap, List.getElem?_map, List.getElem?_eq_getElem hml] at hz'
        have e1 : SeqAt.readOf s.heap its[m] = z' := Option.some.inj (show some (SeqAt.readOf s.heap its[m]) = some z' from hz')
        simpa using e1
      refine call_meets PySem.F.slot_tuple_index ⟨_, ho, rfl⟩ PySem.F.entry_tuple_index (PySem.F.args_tuple_index_2 _ _)
        (TI.tuple_indexAt a its.toArray n dd sls uy (fun u => PyData.eqv (SeqAt.readOf s.heap u) d) j hj ?_ ?_) ⟨ho, SeqAt.items_eqAt (vs := its.toArray) (show ReadsAll s.heap its.toArray.toList ds as from h4) r1 hxs (SeqAt.canLay_of_shaped sd) hroom, ?_⟩
      · show PyData.eqv (SeqAt.readOf s.heap its.toArray[j]) d = true
        rw [at_ j hj z hz]
        exact hzj
      · intro m hm hmj
        have hmd : m < ds.length := by omega
        have hz' : ds[m]? = some ds[m] := List.getElem?_eq_getElem hmd
        show PyData.eqv (SeqAt.readOf s.heap its.toArray[m]) d = false
        rw [at_ m hm _ hz']
        exact hno m _ hmj hz'
      · exact ⟨.int (j : Nat), H, I.tok _, ⟨_, rfl⟩, q⟩
def tIdx (K : PySem.W.Frag) (to : TE) (t : TA) : TE := fun σ H Q => to σ H fun x H1 => (∃ a vs, x = .ref a ∧ Rd H1 a (.lst vs) ∧ t σ H1 fun xs H2 => rIndexD K x xs H2 Q) ∨ ∃ a vs, x = .ref a ∧ TpH H1 a vs ∧ t σ H1 fun xs H2 => rIndexT K x xs H2 Q
theorem pe_idx {X : Cx} {o e : Expr} {es : List Expr} {to : TE} {t : TA} {apos cpos : Pos} (hu : X.A.units + 65 < cLine) (ho : PE X o to) (ha : PA X (e :: es) t)
    (hbase : attributeBase o "index" X.env (eval o X.env) = eval o X.env)
    (hfew : ((backTo cpos (starEach (e :: es) X.env)).all (fun x => !x.1) && (backToKw cpos (keywordEach [] X.env)).all (fun x => x.1.isSome)
      && decide ((e :: es).length + ([] : List Keyword).length + (if ([] : List Keyword).isEmpty then 0 else 1) < 30)) = true)
    (hline : (apos.endLine == cpos.line) = true) (hs : starEach (e :: es) X.env = (false, eval e X.env) :: starEach es X.env) (hplain : (backTo cpos (starEach es X.env)).any (·.1) = false) :
    PE X (.Call (.Attribute o "index" apos) (e :: es) [] cpos) (tIdx X.K to t) := by
  refine ⟨fun pins s σ H Q I h => ?_⟩
  refine wpAny_Call_method_late hbase hfew hline rfl (thn (ho.run pins s σ H _ I h) fun v s1 ⟨x, H1, I1, r1, q1⟩ => ?_)
  rcases q1 with ⟨a, ys, rfl, hr, q1⟩ | ⟨a, ys, rfl, hr, q1⟩
  · cases r1
    obtain ⟨_, its, n, rv, eo⟩ := hr.ok I1.hok
    refine ⟨"list", "list.index", PySem.F.plainAttrs_list, PySem.F.slot_list_index, PySem.F.type_list_index, ⟨_, eo, rfl⟩, fun b eb => ?_, ?_⟩
    · cases eb
      exact ⟨_, eo, rfl⟩
    · have hA := ha.run cpos pins s1 σ H1 _ I1 q1
      rw [hs] at hA ⊢
      refine Calls.callWith_builtin (by show (false || (backTo cpos (starEach es X.env)).any (·.1)) = false; rw [hplain] <;> rfl) (Calls.evalArgs_plain ?_)
      exact thn hA fun us s2 ⟨vs, H2, I2, r2, q2⟩ => mt_indexD hu pins s2 σ H2 (.ref a) vs _ us Q I2 rfl r2 q2
  · cases r1
    obtain ⟨o, od, eo⟩ := hr
    obtain ⟨eo2, _, its, rv, o', eo', ec, n, ed⟩ := I1.hok _ _ eo
    refine ⟨"tuple", "tuple.index", PySem.F.plainAttrs_tuple, PySem.F.slot_tuple_index, PySem.F.type_tuple_index, ⟨_, eo', ec⟩, fun b eb => ?_, ?_⟩
    · cases eb
      exact ⟨o, eo2, od⟩
    · have hA := ha.run cpos pins s1 σ H1 _ I1 q1
      rw [hs] at hA ⊢
      refine Calls.callWith_builtin (by show (false || (backTo cpos (starEach es X.env)).any (·.1)) = false; rw [hplain] <;> rfl) (Calls.evalArgs_plain ?_)
      exact thn hA fun us s2 ⟨vs, H2, I2, r2, q2⟩ => mt_indexT hu pins s2 σ H2 (.ref a) vs _ us Q I2 rfl r2 q2
section
variable {T : Pg} {ad : Ad} {b : List Nat} {W : WX} {X : Cx} {K : PySem.W.Frag} {C : List Nat → Nat → List D → Sto → R D}
variable {s : L2.St} {e : Env} {S : Sto} {H : Hp} {mu : List Addr} {nu : Addr → Prop}
theorem toPyL_get : ∀ {ds : List D} {k : Nat}, (toPyL ds)[k]? = (ds[k]?).map toPy
  | [], _ => rfl
  | d :: ds, 0 => rfl
  | d :: ds, k + 1 => by
    rw [toPyL, List.getElem?_cons_succ, List.getElem?_cons_succ]
    exact toPyL_get
theorem idx_of {n m : Nat} {y : D} (hy : okD n y = true) {zs : List D} (hz : okL m zs = true) {j : Nat} (h : (zs.findIdx? fun z => eqD z y) = some j) :
    ∃ z, (toPyL zs)[j]? = some z ∧ PyData.eqv z (toPy y) = true ∧ ∀ (k : Nat) (z' : PyData), k < j → (toPyL zs)[k]? = some z' → PyData.eqv z' (toPy y) = false := by
  have okk : ∀ {l : List D} {k : Nat} {z : D}, okL m l = true → l[k]? = some z → okD m z = true := by
    intro l
    induction l with
    | nil => intro k z _ e; simp at e
    | cons x l ih =>
      intro k z hl e
      have h1 : okD m x = true ∧ okL m l = true := Bool.and_eq_true_iff.mp (by simpa only [okL] using hl)
      cases k with
      | zero => simp at e; subst e; exact h1.1
      | succ k => exact ih h1.2 (by simpa using e)
  rw [List.findIdx?_eq_some_iff_getElem] at h
  obtain ⟨hj, h1, h2⟩ := h
  have e0 : zs[j]? = some zs[j] := List.getElem?_eq_getElem hj
  refine ⟨toPy zs[j], by rw [toPyL_get, e0]; rfl, by rw [← eqD_py m n _ y (okk hz e0) hy]; exact h1, fun k z' hk e1 => ?_⟩
  have hk' : k < zs.length := Nat.lt_trans hk hj
  have e2 : zs[k]? = some zs[k] := List.getElem?_eq_getElem hk'
  rw [toPyL_get, e2] at e1
  cases e1
  rw [← eqD_py m n _ y (okk hz e2) hy]
  have := h2 k hk
  simpa using this
theorem idx_ok {x : E} {es : List E} : ∀ s H P, tE T ad b W (ev T C b (.meth .index x es)) s H P → tIdx K (tE T ad b W (ev T C b x)) (tA T ad b W (evs T C b es)) s H P := fun s H P h => by
  obtain ⟨mu, nu, e, S, st, p⟩ := h
  rw [ev] at p
  refine tE_bind st p fun v1 d1 S1 H1 mu1 nu1 f1 x1 st1 ro1 ow1 fr1 p1 => ?_
  split at p1
  case isFalse => exact p1.elim
  rename_i hks
  have key : ∀ {K2 : List V → Hp → Prop}, (∀ vs ds S2 H2 mu2 nu2 f2, Stp H1 mu1 nu1 H2 mu2 nu2 → Sta T ad b H2 mu2 nu2 s e S2 → RepOL T ad H2 mu2 nu2 vs ds f2 → Pst T ad b W s e (methF .index d1 ds S2) H2 mu2 nu2 (f1 ++ f2) P → K2 vs H2) →
      tA T ad b W (evs T C b es) s H1 K2 := fun {K2} k => by
    refine ⟨mu1, nu1, e, S1, st1, ?_⟩
    cases h : evs T C b es e S1 with
    | ok ds S2 =>
      rw [h] at p1
      intro vs H2 mu2 nu2 f2 x2 st2 ro2 ow2 fr2
      refine k vs ds S2 H2 mu2 nu2 f2 x2 st2 ro2 (Pst.step x2 (fun a m => ?_) p1)
      rcases List.mem_append.mp m with m | m
      · exact .inl m
      · exact .inr ((fr2 a m).elim (fun z => absurd z List.not_mem_nil) id)
    | ex c xs S2 => rw [h] at p1; exact p1
    | er => rw [h] at p1; exact p1.elim
  have fin : ∀ vs ds S2 H2 mu2 nu2 f2, Stp H1 mu1 nu1 H2 mu2 nu2 → Sta T ad b H2 mu2 nu2 s e S2 → RepOL T ad H2 mu2 nu2 vs ds f2 → Pst T ad b W s e (methF .index d1 ds S2) H2 mu2 nu2 (f1 ++ f2) P →
      ∃ (a : Addr) (y : V) (d : PyData) (zs : List PyData) (j : Nat) (z : PyData) (ws : List V) (c : Bool), v1 = V.ref a ∧ vs = [y] ∧ Seq K H2 v1 ws c ∧ DpAll K H2 ws zs ∧ Dp K H2 y d ∧ SeqAt.shaped (.list zs) = true ∧ SeqAt.shaped (.tuple zs) = true ∧ SeqAt.shaped d = true ∧
        zs[j]? = some z ∧ PyData.eqv z d = true ∧ (∀ (m : Nat) (z' : PyData), m < j → zs[m]? = some z' → PyData.eqv z' d = false) ∧ P (.int (j : Nat)) H2 := by
    intro vs ds S2 H2 mu2 nu2 f2 x2 st2 ro2 p2
    unfold methF at p2
    split at p2
    · obtain ⟨w, rfl, rw1⟩ := ro2.one
      split at p2
      · rename_i y ys hy hk
        split at p2
        · rename_i zs hz
          split at p2
          · rename_i j hj
            obtain ⟨a1, a2⟩ := norm_ok (K := K) st2 rw1 hy
            obtain ⟨ws, gp, c, sq, rk, _, _⟩ := kids_ok (K := K) st2 (ro1.keeps (x2.keepsO st1.sub)) hk
            obtain ⟨b1, b2⟩ := normL_ok (K := K) st2 rk hz
            obtain ⟨z, c1, c2, c3⟩ := idx_of a2 b2 hj
            obtain ⟨a, rfl, _⟩ := sq.both
            exact ⟨a, w, _, _, j, z, ws, c, rfl, rfl, sq, b1, a1, okL_shaped b2, okL_shapedT b2, okD_shaped a2, c1, c2, c3, p2.val st2 (.int _)⟩
          · exact p2.elim
        · exact p2.elim
      · exact p2.elim
    · exact p2.elim
  obtain ⟨ys0, hk0⟩ := Option.isSome_iff_exists.mp hks
  obtain ⟨vs, gp0, c0, sq0, _, _, _⟩ := kids_ok (K := K) st1 ro1 hk0
  cases sq0 with
  | @lst a vs hr =>
    refine .inl ⟨a, vs, rfl, hr, key fun vs ds S2 H2 mu2 nu2 f2 x2 st2 ro2 p2 => ?_⟩
    obtain ⟨a', y, d, zs, j, z, ws, c, e1, rfl, sq, q1, q2, q3, q4, q5, q6, q7, q8, q9⟩ := fin _ _ _ _ _ _ _ x2 st2 ro2 p2
    cases e1
    cases sq with
    | lst hr2 => exact ⟨a, y, d, zs, j, z, rfl, rfl, .lst (.inl hr2) q1, q2, q3, q5, q6, q7, q8, q9⟩
    | tup ht =>
      exfalso
      -- a list stays one
      obtain ⟨o, od, eo⟩ := ht
      have hl : ∃ u, H1 a = some u ∧ (u = .lst vs ∨ ∃ o, u = .frz o (.lst vs)) := by
        rcases hr with hr | ⟨o, hr⟩
        · exact ⟨_, hr, .inl rfl⟩
        · exact ⟨_, hr, .inr ⟨o, rfl⟩⟩
      obtain ⟨u, hu, hu2⟩ := hl
      by_cases hm : a ∈ mu1
      · obtain ⟨n, hn⟩ := List.getElem?_of_mem hm
        have hn2 := x2.get hn
        have hlt : n < S2.length := by rw [st2.num]; exact (List.getElem?_eq_some_iff.mp hn2).1
        have hc := st2.cel n a S2[n] hn2 (List.getElem?_eq_getElem hlt)
        cases hcc : S2[n] with
        | lst o' xs => rw [hcc] at hc; cases hc with | lst q r => rw [eo] at q; cases q
        | dic o' ks xs => rw [hcc] at hc; cases hc with | dic q r => rw [eo] at q; cases q
        | ins o' cc xs => rw [hcc] at hc; cases hc with | ins hI q l r => rw [eo] at q; cases q
        | _ => rw [hcc] at hc; cases hc
      · have := (x2.keep a u hu hm).1
        rw [eo] at this
        rcases hu2 with rfl | ⟨o', rfl⟩ <;> cases this
  | @tup a vs hr =>
      refine .inr ⟨a, vs, rfl, hr, key fun vs2 ds S2 H2 mu2 nu2 f2 x2 st2 ro2 p2 => ?_⟩
      obtain ⟨a', y, d, zs, j, z, ws, c, e1, rfl, sq, q1, q2, q3, q4, q5, q6, q7, q8, q9⟩ := fin _ _ _ _ _ _ _ x2 st2 ro2 p2
      cases e1
      cases sq with
      | tup ht => exact ⟨a, y, d, zs, j, z, rfl, rfl, .tup ht.sq q1, q2, q4, q5, q6, q7, q8, q9⟩
      | lst hr2 =>
        exfalso
        obtain ⟨o, od, eo⟩ := hr
        by_cases hm : a ∈ mu1
        · obtain ⟨n, hn⟩ := List.getElem?_of_mem hm
          have hlt : n < S1.length := by rw [st1.num]; exact (List.getElem?_eq_some_iff.mp hn).1
          have hc := st1.cel n a S1[n] hn (List.getElem?_eq_getElem hlt)
          cases hcc : S1[n] with
          | lst o' xs => rw [hcc] at hc; cases hc with | lst q r => rw [eo] at q; cases q
          | dic o' ks xs => rw [hcc] at hc; cases hc with | dic q r => rw [eo] at q; cases q
          | ins o' cc xs => rw [hcc] at hc; cases hc with | ins hI q l r => rw [eo] at q; cases q
          | _ => rw [hcc] at hc; cases hc
        · have := (x2.keep a _ eo hm).1
          rcases hr2 with hr2 | ⟨_, hr2⟩ <;> · rw [this] at hr2; cases hr2
end
end Dl
end

section
set_option Elab.async false
set_option linter.all false
set_option maxRecDepth 100000
set_option maxHeartbeats 1000000
/-! D18: cells that change. -/
namespace Dl
open PySem PySem.Spec PyProof.Rows L2
section
variable {T : Pg} {ad : Ad} {b : List Nat} {W : WX} {X : Cx} {K : PySem.W.Frag} {C : List Nat → Nat → List D → Sto → R D}
variable {s : L2.St} {e : Env} {S : Sto} {H H1 : Hp} {mu mu1 : List Addr} {nu nu1 : Addr → Prop}
theorem noRL_iff {b : Nat} {xs : List D} : noRL b xs = true ↔ ∀ x, x ∈ xs → noR b x = true := by
  induction xs with
  | nil => simp [noRL]
  | cons x xs ih => simp [noRL, ih]
theorem okB_at {bs : List Nat} {n β : Nat} {x : D} (h : okB bs n x = true) (m : β ∈ bs) (hb : n < β) : noR β x = true := by
  have q := List.all_eq_true.mp h β m
  rw [Bool.or_eq_true] at q
  rcases q with q | q
  · have := of_decide_eq_true q
    omega
  · exact q
theorem set_get {α : Type} (S : List α) (n m : Nat) (c : α) : (S.set n c)[m]? = if m = n ∧ m < S.length then some c else S[m]? := by
  rw [List.getElem?_set]
  by_cases h : n = m
  · subst h
    by_cases hl : n < S.length
    · simp [hl]
    · simp [hl]
  · have : ¬ m = n := fun z => h z.symm
    simp [h, this]
theorem chg_kp {a : Addr} {o' : HO} (ha : nu a) : Kp H mu nu (upd H a o') mu nu where
  at_ := fun c u hc n => ⟨by rw [upd_ne fun (z : c = a) => n (z ▸ ha)]; exact hc, n⟩
  ref := fun _ _ z => z
/-- a cell's content is changed -/
theorem Sta.chg (st : Sta T ad b H mu nu s e S) {n : Nat} {a : Addr} (hn : mu[n]? = some a) {o' : HO} {c' : D} (hr : RepC T ad (upd H a o') mu nu a c') (ho : ∀ β, β ∈ b → n < β → noR β c' = true) : Stp H mu nu (upd H a o') mu nu ∧ Sta T ad b (upd H a o') mu nu s e (S.set n c') := by
  have hm : a ∈ mu := List.mem_of_getElem? hn
  have hlt : n < S.length := by rw [st.num]; exact (List.getElem?_eq_some_iff.mp hn).1
  have k : Kp H mu nu (upd H a o') mu nu := chg_kp (st.sub a hm)
  refine ⟨⟨fun c u hc nc => ⟨by rw [upd_ne fun (z : c = a) => nc (z ▸ hm)]; exact hc, nc, fun z => z⟩, ⟨[], by simp⟩, fun _ z => z, fun c u hc => ?_, fun c h => .inl h⟩, ?_⟩
  · by_cases z : c = a
    · subst z; exact ⟨_, upd_same⟩
    · exact ⟨u, by rw [upd_ne z]; exact hc⟩
  · refine ⟨st.len, fun i d h => ?_, by rw [List.length_set]; exact st.num, fun m c d h1 h2 => ?_, st.nd, st.sub, fun c z => ?_, fun β hβ m d h1 h2 => ?_, by rw [List.length_set]; exact st.bse⟩
    · obtain ⟨v, h1, r⟩ := st.env i d h
      exact ⟨v, h1, r.keeps k⟩
    · rw [set_get] at h2
      split at h2
      · rename_i hh
        cases h2
        rw [hh.1, hn] at h1
        cases h1
        exact hr
      · rename_i hh
        have hne : m ≠ n := fun z => hh ⟨z, z ▸ hlt⟩
        have hca : c ≠ a := fun z => by
          subst z
          obtain ⟨l1, e1⟩ := List.getElem?_eq_some_iff.mp h1
          obtain ⟨l2, e2⟩ := List.getElem?_eq_some_iff.mp hn
          exact hne ((List.getElem_inj st.nd).mp (e1.trans e2.symm))
        cases st.cel m c d h1 h2 with
        | lst q r => exact .lst (by rw [upd_ne hca]; exact q) (r.keeps k)
        | dic q r => exact .dic (by rw [upd_ne hca]; exact q) (r.keeps k)
        | ins hI q l r => exact .ins hI (by rw [upd_ne hca]; exact q) l (r.keeps k)
    · by_cases w : c = a
      · subst w; exact ⟨_, upd_same⟩
      · obtain ⟨u, hu⟩ := st.trk c z
        exact ⟨u, by rw [upd_ne w]; exact hu⟩
    · rw [set_get] at h2
      split at h2
      · rename_i hh
        cases h2
        exact ho β hβ (hh.1 ▸ h1)
      · exact st.old β hβ m d h1 h2
theorem RepL.ofL {vs : List V} {ds : List D} (h : RepL T ad H mu nu vs ds) : RepOL T ad H mu nu vs ds [] := Rep.ofL _ h
theorem RepL.snoc {vs : List V} {ds : List D} {v : V} {d : D} (h : RepL T ad H mu nu vs ds) (r : Rep T ad H mu nu v d) : RepL T ad H mu nu (vs ++ [v]) (ds ++ [d]) := h.app (.cons r .nil)
theorem RepL.eraseIdx : ∀ {vs : List V} {ds : List D} (k : Nat), RepL T ad H mu nu vs ds → RepL T ad H mu nu (vs.eraseIdx k) (ds.eraseIdx k)
  | _, _, _, .nil => .nil
  | _, _, 0, .cons _ h => h
  | _, _, k + 1, .cons r h => .cons r (h.eraseIdx k)
theorem RepL.dropLast : ∀ {vs : List V} {ds : List D}, RepL T ad H mu nu vs ds → RepL T ad H mu nu vs.dropLast ds.dropLast
  | _, _, .nil => .nil
  | _, _, .cons r .nil => .nil
  | _, _, .cons r (.cons r2 h) => .cons r (RepL.dropLast (.cons r2 h))
theorem RepL.set : ∀ {vs : List V} {ds : List D} {v : V} {d : D} (k : Nat), Rep T ad H mu nu v d → RepL T ad H mu nu vs ds → RepL T ad H mu nu (vs.set k v) (ds.set k d)
  | _, _, _, _, _, _, .nil => .nil
  | _, _, _, _, 0, r, .cons _ h => .cons r h
  | _, _, _, _, k + 1, r, .cons q h => .cons q (RepL.set k r h)
theorem RepL.one {vs : List V} {d : D} (r : RepL T ad H mu nu vs [d]) : ∃ v, vs = [v] ∧ Rep T ad H mu nu v d := by
  cases r with
  | cons r1 r2 => cases r2; exact ⟨_, rfl, r1⟩
theorem RepL.zero {vs : List V} (r : RepL T ad H mu nu vs []) : vs = [] := by cases r; rfl
def rMut : Mut → V → List V → Hp → VK → Prop
  | .append => rAppend
  | .pop => rPop
  | .popAt => rPopAt
def mutId : Mut → String
  | .append => "list.append"
  | .pop => "list.pop"
  | .popAt => "list.pop"
theorem mt_mut (m : Mut) : MtR X (mutId m) (rMut m) := by
  cases m with
  | append => exact mt_append
  | pop => exact mt_pop
  | popAt => exact mt_popAt
theorem mutF_ok {m : Mut} {n : Nat} {a : Addr} {vs : List V} {ds : List D} {P : VK} (st : Sta T ad b H mu nu s e S) (hn : mu[n]? = some a) (rl : RepL T ad H mu nu vs ds) (p : Pst T ad b W s e (mutF m b (.ref n) ds S) H mu nu [] P) : rMut m (.ref a) vs H P := by
  have hm := List.mem_of_getElem? hn
  have na := st.sub a hm
  have kp : ∀ o', Kp H mu nu (upd H a o') mu nu := fun o' => chg_kp na
  unfold mutF at p
  dsimp only at p
  split at p
  · rename_i x o xs hS
    obtain ⟨v, rfl, r⟩ := rl.one
    split at p
    · rename_i hh
      cases st.cel n a _ hn hS with
      | @lst ws _ q rl =>
        obtain ⟨x1, st1⟩ := st.chg hn (o' := .lst (ws ++ [v])) (c' := .lst true (xs ++ [x])) (.lst upd_same ((rl.keeps (kp _)).snoc (r.keeps (kp _)))) fun β hβ hb => by
          have h1 : noRL β xs = true := st.old β hβ n _ hb hS
          show noRL β (xs ++ [x]) = true
          rw [noRL_iff] at h1 ⊢
          intro y my
          rcases List.mem_append.mp my with my | my
          · exact h1 y my
          · rw [List.mem_singleton.mp my]; exact okB_at hh.2 hβ hb
        exact ⟨a, ws, v, rfl, rfl, q, by rw [rl.length]; exact hh.1, (p.step x1 fun _ z => absurd z List.not_mem_nil).val st1 .non⟩
    · exact p.elim
  · rename_i o xs hS
    have ev := rl.zero
    subst ev
    split at p
    · rename_i y hy
      cases st.cel n a _ hn hS with
      | @lst ws _ q rl =>
        obtain ⟨x1, st1⟩ := st.chg hn (o' := .lst ws.dropLast) (c' := .lst true xs.dropLast) (.lst upd_same (rl.keeps (kp _)).dropLast) fun β hβ hb => by
          have h1 : noRL β xs = true := st.old β hβ n _ hb hS
          show noRL β xs.dropLast = true
          rw [noRL_iff] at h1 ⊢
          exact fun y my => h1 y ((List.dropLast_sublist xs).subset my)
        obtain ⟨v, hv, rv⟩ := rl.get hy
        exact ⟨a, ws, v, rfl, rfl, q, by rw [rl.length]; exact hv, (p.step x1 fun _ z => absurd z List.not_mem_nil).val st1 (rv.keeps (kp _))⟩
    · exact p.elim
  · rename_i i o xs hS
    obtain ⟨v, rfl, r⟩ := rl.one
    cases r
    split at p
    · rename_i hh
      split at p
      · rename_i k hk
        split at p
        · rename_i y hy
          cases st.cel n a _ hn hS with
          | @lst ws _ q rl =>
            obtain ⟨x1, st1⟩ := st.chg hn (o' := .lst (ws.eraseIdx k)) (c' := .lst true (xs.eraseIdx k)) (.lst upd_same (RepL.eraseIdx k (rl.keeps (kp _)))) fun β hβ hb => by
              have h1 : noRL β xs = true := st.old β hβ n _ hb hS
              show noRL β (xs.eraseIdx k) = true
              rw [noRL_iff] at h1 ⊢
              exact fun y my => h1 y (List.mem_of_mem_eraseIdx my)
            obtain ⟨v, hv, rv⟩ := rl.get hy
            exact ⟨a, ws, i, k, v, rfl, rfl, q, hh.1, hh.2, by rw [rl.length]; exact hk, hv, (p.step x1 fun _ z => absurd z List.not_mem_nil).val st1 (rv.keeps (kp _))⟩
        · exact p.elim
      · exact p.elim
    · exact p.elim
  · exact p.elim
theorem mut_ok {m : Mut} {x : E} {es : List E} : ∀ s H P, tE T ad b W (ev T C b (.mut m x es)) s H P → tBM K "list" (rMut m) (tE T ad b W (ev T C b x)) (tA T ad b W (evs T C b es)) s H P := fun s H P h => by
  obtain ⟨mu, nu, e, S, st, p⟩ := h
  rw [ev] at p
  refine tE_bind st p fun v1 d1 S1 H1 mu1 nu1 f1 x1 st1 ro1 ow1 fr1 p1 => ?_
  split at p1
  case isFalse => exact p1.elim
  rename_i hc
  cases d1 with
  | ref n =>
    obtain ⟨a, rfl, rfl, ha⟩ := ro1.ref
    have hty : L2.tyV K "list" (.ref a) H1 := by
      unfold isCell at hc
      dsimp only at hc
      split at hc
      · rename_i o xs hS
        cases st1.cel n a _ ha hS with
        | lst q r => exact .inl ⟨rfl, _, .inl (.inl q)⟩
      · cases hc
    refine ⟨hty, ?_⟩
    refine tA_bind0 st1 p1 fun vs ds S2 H2 mu2 nu2 f2 x2 st2 ro2 ow2 fr2 p2 => ?_
    obtain ⟨x3, st3, rl⟩ := land x2 st1 st2 ro2 fr2
    exact mutF_ok st3 (x3.get ha) rl (p2.step x3 fun _ z => absurd z List.not_mem_nil)
  | _ => cases hc
theorem mut0_ok {m : Mut} {x : E} : ∀ s H P, tE T ad b W (ev T C b (.mut m x [])) s H P → tBM0 K "list" (rMut m) (tE T ad b W (ev T C b x)) s H P := fun s H P h => by
  have h2 := mut_ok (K := K) s H P h
  obtain ⟨mu, nu, e, S, st, p⟩ := h2
  refine ⟨mu, nu, e, S, st, ?_⟩
  cases hx : ev T C b x e S with
  | ok d S1 =>
    rw [hx] at p
    intro v H1 mu1 nu1 fp x1 st1 ro ow fr
    obtain ⟨ty, q⟩ := p v H1 mu1 nu1 fp x1 st1 ro ow fr
    exact ⟨ty, nil_ok (T := T) (ad := ad) (b := b) (W := W) (C := C) s H1 _ q⟩
  | ex c xs S1 => rw [hx] at p; exact p
  | er => rw [hx] at p; exact p.elim
end
end Dl
end

section
set_option Elab.async false
set_option linter.all false
set_option maxRecDepth 100000
set_option maxHeartbeats 1000000
/-! D19: planting. -/
namespace Dl
open PySem PySem.Spec PyProof.Rows L2
section
variable {T : Pg} {ad : Ad} {b : List Nat} {W : WX} {K : PySem.W.Frag} {C : List Nat → Nat → List D → Sto → R D}
variable {s : L2.St} {e : Env} {H : Hp}
/-- data in flight stand where its own objects are no cells -/
structure KpF (H : Hp) (mu : List Addr) (nu : Addr → Prop) (mu' : List Addr) (nu' : Addr → Prop) (fp : List Addr) : Prop extends Kp H mu nu H mu' nu' where
  own : ∀ a, a ∈ fp → a ∉ mu'
mutual
theorem RepO.keepsF {mu mu' : List Addr} {nu nu' : Addr → Prop} : ∀ {v : V} (d : D) {fp : List Addr}, KpF H mu nu mu' nu' fp → RepO T ad H mu nu v d fp → RepO T ad H mu' nu' v d fp
  | _, .non, _, k, h => by cases h with | of r => exact .of (r.keeps k.toKp)
  | _, .bl _, _, k, h => by cases h with | of r => exact .of (r.keeps k.toKp)
  | _, .int _, _, k, h => by cases h with | of r => exact .of (r.keeps k.toKp)
  | _, .str _, _, k, h => by cases h with | of r => exact .of (r.keeps k.toKp)
  | _, .tup ds, _, k, h => by
    cases h with
    | of r => exact .of (r.keeps k.toKp)
    | tup n e r => exact .tup (k.toKp.tp n e).2 (k.toKp.tp n e).1 (RepOL.keepsF ds k r)
  | _, .lst o ds, _, k, h => by
    cases h with
    | of r => exact .of (r.keeps k.toKp)
    | lst n e r => exact .lst (k.own _ List.mem_cons_self) e (RepOL.keepsF ds ⟨k.toKp, fun a m => k.own a (List.mem_cons_of_mem _ m)⟩ r)
  | _, .dic o ks ds, _, k, h => by
    cases h with
    | of r => exact .of (r.keeps k.toKp)
    | dic n e r => exact .dic (k.own _ List.mem_cons_self) e (RepOL.keepsF ds ⟨k.toKp, fun a m => k.own a (List.mem_cons_of_mem _ m)⟩ r)
  | _, .set _ _, _, k, h => by cases h with | of r => exact .of (r.keeps k.toKp)
  | _, .ins o c ds, _, k, h => by
    cases h with
    | of r => exact .of (r.keeps k.toKp)
    | ins hI n e l r => exact .ins hI (k.own _ List.mem_cons_self) e l (RepOL.keepsF ds ⟨k.toKp, fun a m => k.own a (List.mem_cons_of_mem _ m)⟩ r)
  | _, .ref _, _, k, h => by cases h with | of r => exact .of (r.keeps k.toKp)
  | _, .fn _, _, k, h => by cases h with | of r => exact .of (r.keeps k.toKp)
  | _, .cls _, _, k, h => by cases h with | of r => exact .of (r.keeps k.toKp)
  | _, .exc _ _, _, k, h => by cases h with | of r => exact .of (r.keeps k.toKp)
theorem RepOL.keepsF {mu mu' : List Addr} {nu nu' : Addr → Prop} : ∀ {vs : List V} (ds : List D) {fp : List Addr}, KpF H mu nu mu' nu' fp → RepOL T ad H mu nu vs ds fp → RepOL T ad H mu' nu' vs ds fp
  | _, [], _, k, h => by cases h; exact .nil
  | _, d :: ds, _, k, h => by
    cases h with
    | cons h1 h2 => exact .cons (RepO.keepsF d ⟨k.toKp, fun a m => k.own a (List.mem_append_left _ m)⟩ h1) (RepOL.keepsF ds ⟨k.toKp, fun a m => k.own a (List.mem_append_right _ m)⟩ h2)
end
/-- what planting does to the cells and to what is held alone -/
structure Plt (mu : List Addr) (nu : Addr → Prop) (fp : List Addr) (mu' : List Addr) (nu' : Addr → Prop) : Prop where
  ext : ∃ t, mu' = mu ++ t ∧ ∀ a, a ∈ t → a ∈ fp
  dn : ∀ a, nu' a → nu a
  up : ∀ a, nu a → nu' a ∨ a ∈ fp
theorem Plt.refl {mu : List Addr} {nu : Addr → Prop} : Plt mu nu [] mu nu := ⟨⟨[], by simp, fun _ m => m⟩, fun _ z => z, fun _ z => .inl z⟩
theorem Plt.less {mu : List Addr} {nu : Addr → Prop} {fp : List Addr} : Plt mu nu fp mu (Dl.less nu fp) := ⟨⟨[], by simp, fun _ m => absurd m List.not_mem_nil⟩, fun _ z => z.1, fun a z => by
  by_cases h : a ∈ fp
  · exact .inr h
  · exact .inl ⟨z, h⟩⟩
theorem Plt.mono {mu mu' : List Addr} {nu nu' : Addr → Prop} {fp gp : List Addr} (x : Plt mu nu fp mu' nu') (h : ∀ a, a ∈ fp → a ∈ gp) : Plt mu nu gp mu' nu' :=
  ⟨let ⟨t, e, m⟩ := x.ext; ⟨t, e, fun a z => h a (m a z)⟩, x.dn, fun a z => (x.up a z).imp id (h a)⟩
theorem Plt.trans {mu mu' mu2 : List Addr} {nu nu' nu2 : Addr → Prop} {fp gp : List Addr} (x : Plt mu nu fp mu' nu') (y : Plt mu' nu' gp mu2 nu2) : Plt mu nu (fp ++ gp) mu2 nu2 where
  ext := by
    obtain ⟨t, e, m⟩ := x.ext
    obtain ⟨u, e', m'⟩ := y.ext
    refine ⟨t ++ u, by rw [e', e, List.append_assoc], fun a z => ?_⟩
    rcases List.mem_append.mp z with z | z
    · exact List.mem_append_left _ (m a z)
    · exact List.mem_append_right _ (m' a z)
  dn := fun a z => x.dn a (y.dn a z)
  up := fun a z => by
    rcases x.up a z with z | z
    · rcases y.up a z with z | z
      · exact .inl z
      · exact .inr (List.mem_append_right _ z)
    · exact .inr (List.mem_append_left _ z)
theorem Plt.kp {mu mu' : List Addr} {nu nu' : Addr → Prop} {fp : List Addr} (x : Plt mu nu fp mu' nu') : Kp H mu nu H mu' nu' where
  at_ := fun a o h n => ⟨h, fun z => n (x.dn a z)⟩
  ref := fun n a h => by
    obtain ⟨t, e, _⟩ := x.ext
    rw [e, List.getElem?_append_left (List.getElem?_eq_some_iff.mp h).1]
    exact h
/-- others in flight -/
theorem Plt.kpF {mu mu' : List Addr} {nu nu' : Addr → Prop} {fp gp : List Addr} (x : Plt mu nu fp mu' nu') (hg : ∀ a, a ∈ gp → a ∉ mu) (hd : ∀ a, a ∈ fp → a ∉ gp) : KpF H mu nu mu' nu' gp :=
  ⟨x.kp, fun a m z => by
    obtain ⟨t, e, h⟩ := x.ext
    rw [e] at z
    rcases List.mem_append.mp z with z | z
    · exact hg a m z
    · exact hd a (h a z) m⟩
theorem Plt.own {mu mu' : List Addr} {nu nu' : Addr → Prop} {fp gp : List Addr} (x : Plt mu nu fp mu' nu') (o : Own nu gp) (hd : ∀ a, a ∈ fp → a ∉ gp) : Own nu' gp :=
  ⟨o.1, fun a m => (x.up a (o.2 a m)).elim id fun z => absurd m (hd a z)⟩
theorem RepC.keepsK {mu mu' : List Addr} {nu nu' : Addr → Prop} {a : Addr} {c : D} (k : Kp H mu nu H mu' nu') (h : RepC T ad H mu nu a c) : RepC T ad H mu' nu' a c := by
  cases h with
  | lst q r => exact .lst q (r.keeps k)
  | dic q r => exact .dic q (r.keeps k)
  | ins hI q l r => exact .ins hI q l (r.keeps k)
/-- a new cell -/
theorem Sta.cellNew {mu : List Addr} {nu : Addr → Prop} {S : Sto} {a : Addr} {c : D} (st : Sta T ad b H mu nu s e S) (hm : a ∉ mu) (hn : nu a) (hc : RepC T ad H mu nu a c) : Sta T ad b H (mu ++ [a]) nu s e (S ++ [c]) ∧ Plt mu nu [a] (mu ++ [a]) nu := by
  have x : Plt mu nu [a] (mu ++ [a]) nu := ⟨⟨[a], rfl, fun _ m => m⟩, fun _ z => z, fun _ z => .inl z⟩
  have k : Kp H mu nu H (mu ++ [a]) nu := x.kp
  refine ⟨⟨st.len, fun i d h => ?_, by rw [List.length_append, List.length_append, st.num]; rfl, fun m a' d h1 h2 => ?_, ?_, fun a' h => ?_, st.trk, fun β hβ m d h1 h2 => ?_, fun β hβ => ?_⟩, x⟩
  · obtain ⟨v, h1, r⟩ := st.env i d h
    exact ⟨v, h1, r.keeps k⟩
  · by_cases hlt : m < mu.length
    · rw [List.getElem?_append_left hlt] at h1
      rw [List.getElem?_append_left (by rw [st.num]; exact hlt)] at h2
      exact RepC.keepsK k (st.cel m a' d h1 h2)
    · have hl : m < (mu ++ [a]).length := (List.getElem?_eq_some_iff.mp h1).1
      have em : m = mu.length := by simp at hl; omega
      subst em
      rw [List.getElem?_append_right (Nat.le_refl _), Nat.sub_self] at h1
      cases h1
      rw [List.getElem?_append_right (by rw [st.num]; exact Nat.le_refl _), st.num, Nat.sub_self] at h2
      cases h2
      exact RepC.keepsK k hc
  · refine List.nodup_append.mpr ⟨st.nd, List.nodup_cons.mpr ⟨List.not_mem_nil, List.nodup_nil⟩, fun y hy z hz w => ?_⟩
    rw [List.mem_singleton.mp hz] at w
    exact hm (w ▸ hy)
  · rcases List.mem_append.mp h with h | h
    · exact st.sub a' h
    · rw [List.mem_singleton.mp h]; exact hn
  · have hlt : m < S.length := Nat.lt_of_lt_of_le h1 (st.bse β hβ)
    rw [List.getElem?_append_left hlt] at h2
    exact st.old β hβ m d h1 h2
  · rw [List.length_append]; exact Nat.le_trans (st.bse β hβ) (Nat.le_add_right _ _)
theorem Sta.lessP {mu : List Addr} {nu : Addr → Prop} {S : Sto} {d : D} {v : V} {fp : List Addr} (st : Sta T ad b H mu nu s e S) (r : RepO T ad H mu nu v d fp) :
    Plt mu nu fp mu (Dl.less nu fp) ∧ Sta T ad b H mu (Dl.less nu fp) s e S ∧ Rep T ad H mu (Dl.less nu fp) v (frz d) :=
  ⟨.less, st.less (r.notmu d), r.frz (fun a z => z.1) d fun a m z => z.2 m⟩
theorem plant_flat {k : Nat} {d : D} {S : Sto} (h : plant k d S = (frz d, S)) {mu : List Addr} {nu : Addr → Prop} {v : V} {fp : List Addr} (st : Sta T ad b H mu nu s e S) (r : RepO T ad H mu nu v d fp) :
    ∃ mu' nu', Plt mu nu fp mu' nu' ∧ Sta T ad b H mu' nu' s e (plant k d S).2 ∧ Rep T ad H mu' nu' v (plant k d S).1 := by
  rw [h]
  obtain ⟨h1, h2, h3⟩ := st.lessP r
  exact ⟨_, _, h1, h2, h3⟩
mutual
theorem plant_ok : ∀ (d : D) (k : Nat) {S : Sto} {mu : List Addr} {nu : Addr → Prop} {v : V} {fp : List Addr}, Sta T ad b H mu nu s e S → RepO T ad H mu nu v d fp → Own nu fp →
    ∃ mu' nu', Plt mu nu fp mu' nu' ∧ Sta T ad b H mu' nu' s e (plant k d S).2 ∧ Rep T ad H mu' nu' v (plant k d S).1
  | d, 0, S, mu, nu, v, fp, st, r, ow => plant_flat (by cases d <;> rfl) st r
  | .non, k + 1, S, mu, nu, v, fp, st, r, ow => plant_flat rfl st r
  | .bl _, k + 1, S, mu, nu, v, fp, st, r, ow => plant_flat rfl st r
  | .int _, k + 1, S, mu, nu, v, fp, st, r, ow => plant_flat rfl st r
  | .str _, k + 1, S, mu, nu, v, fp, st, r, ow => plant_flat rfl st r
  | .ref _, k + 1, S, mu, nu, v, fp, st, r, ow => plant_flat rfl st r
  | .fn _, k + 1, S, mu, nu, v, fp, st, r, ow => plant_flat rfl st r
  | .cls _, k + 1, S, mu, nu, v, fp, st, r, ow => plant_flat rfl st r
  | .exc _ _, k + 1, S, mu, nu, v, fp, st, r, ow => plant_flat rfl st r
  | .lst false _, k + 1, S, mu, nu, v, fp, st, r, ow => plant_flat rfl st r
  | .dic false _ _, k + 1, S, mu, nu, v, fp, st, r, ow => plant_flat rfl st r
  | .ins false _ _, k + 1, S, mu, nu, v, fp, st, r, ow => plant_flat rfl st r
  | .set _ _, k + 1, S, mu, nu, v, fp, st, r, ow => by cases r with | of r => cases r
  | .tup xs, k + 1, S, mu, nu, v, fp, st, r, ow => by
    obtain ⟨a, vs, rfl, n, ht, rl⟩ := r.tup_
    obtain ⟨mu', nu', x, st', rl'⟩ := plantL_ok xs k st rl ow
    exact ⟨mu', nu', x, st', .tup (fun z => n (x.dn _ z)) ht rl'⟩
  | .lst true xs, k + 1, S, mu, nu, v, fp, st, r, ow => by
    cases r with
    | of r => cases r
    | @lst a vs _ gp hm ha rl =>
      obtain ⟨n1, n2⟩ := List.nodup_cons.mp ow.1
      obtain ⟨mu', nu', x, st', rl'⟩ := plantL_ok xs k st rl ⟨n2, fun c m => ow.2 c (List.mem_cons_of_mem _ m)⟩
      have nm' : a ∉ mu' := (x.kpF (gp := [a]) (H := H) (fun c m => by rw [List.mem_singleton.mp m]; exact hm) fun c m z => n1 (List.mem_singleton.mp z ▸ m)).own a (List.mem_singleton.mpr rfl)
      have na' : nu' a := (x.up a (ow.2 a List.mem_cons_self)).elim id fun z => absurd z n1
      obtain ⟨st2, x2⟩ := st'.cellNew nm' na' (.lst ha rl')
      refine ⟨_, _, (x.trans x2).mono fun c m => ?_, st2, .ref ?_⟩
      · rcases List.mem_append.mp m with m | m
        · exact List.mem_cons_of_mem _ m
        · rw [List.mem_singleton.mp m]; exact List.mem_cons_self
      · rw [st'.num, List.getElem?_append_right (Nat.le_refl _), Nat.sub_self]; rfl
  | .dic true ks xs, k + 1, S, mu, nu, v, fp, st, r, ow => by
    cases r with
    | of r => cases r
    | @dic a kvs _ gp hm ha rl =>
      obtain ⟨n1, n2⟩ := List.nodup_cons.mp ow.1
      obtain ⟨mu', nu', x, st', rl'⟩ := plantL_ok xs k st rl ⟨n2, fun c m => ow.2 c (List.mem_cons_of_mem _ m)⟩
      have nm' : a ∉ mu' := (x.kpF (gp := [a]) (H := H) (fun c m => by rw [List.mem_singleton.mp m]; exact hm) fun c m z => n1 (List.mem_singleton.mp z ▸ m)).own a (List.mem_singleton.mpr rfl)
      have na' : nu' a := (x.up a (ow.2 a List.mem_cons_self)).elim id fun z => absurd z n1
      obtain ⟨st2, x2⟩ := st'.cellNew nm' na' (.dic ha rl')
      refine ⟨_, _, (x.trans x2).mono fun c m => ?_, st2, .ref ?_⟩
      · rcases List.mem_append.mp m with m | m
        · exact List.mem_cons_of_mem _ m
        · rw [List.mem_singleton.mp m]; exact List.mem_cons_self
      · rw [st'.num, List.getElem?_append_right (Nat.le_refl _), Nat.sub_self]; rfl
  | .ins true c xs, k + 1, S, mu, nu, v, fp, st, r, ow => by
    cases r with
    | of r => cases r
    | @ins a dx _ vs _ gp hI hm ha hl rl =>
      obtain ⟨n1, n2⟩ := List.nodup_cons.mp ow.1
      obtain ⟨mu', nu', x, st', rl'⟩ := plantL_ok xs k st rl ⟨n2, fun c m => ow.2 c (List.mem_cons_of_mem _ m)⟩
      have nm' : a ∉ mu' := (x.kpF (gp := [a]) (H := H) (fun c m => by rw [List.mem_singleton.mp m]; exact hm) fun c m z => n1 (List.mem_singleton.mp z ▸ m)).own a (List.mem_singleton.mpr rfl)
      have na' : nu' a := (x.up a (ow.2 a List.mem_cons_self)).elim id fun z => absurd z n1
      obtain ⟨st2, x2⟩ := st'.cellNew nm' na' (.ins hI ha hl rl')
      refine ⟨_, _, (x.trans x2).mono fun c m => ?_, st2, .ref ?_⟩
      · rcases List.mem_append.mp m with m | m
        · exact List.mem_cons_of_mem _ m
        · rw [List.mem_singleton.mp m]; exact List.mem_cons_self
      · rw [st'.num, List.getElem?_append_right (Nat.le_refl _), Nat.sub_self]; rfl
theorem plantL_ok : ∀ (ds : List D) (k : Nat) {S : Sto} {mu : List Addr} {nu : Addr → Prop} {vs : List V} {fp : List Addr}, Sta T ad b H mu nu s e S → RepOL T ad H mu nu vs ds fp → Own nu fp →
    ∃ mu' nu', Plt mu nu fp mu' nu' ∧ Sta T ad b H mu' nu' s e (plantL k ds S).2 ∧ RepL T ad H mu' nu' vs (plantL k ds S).1
  | [], k, S, mu, nu, vs, fp, st, r, ow => by
    cases r
    exact ⟨mu, nu, .refl, st, .nil⟩
  | d :: ds, k, S, mu, nu, vs, fp, st, r, ow => by
    cases r with
    | @cons v _ vs _ f1 f2 r1 r2 =>
      obtain ⟨o1, o2, o3⟩ := List.nodup_append.mp ow.1
      obtain ⟨mu1, nu1, x1, st1, q1⟩ := plant_ok d k st r1 ow.left
      have dj : ∀ a, a ∈ f1 → a ∉ f2 := fun a h1 h2 => o3 a h1 a h2 rfl
      have r2' := r2.keepsF ds (x1.kpF (r2.notmu ds) dj)
      obtain ⟨mu2, nu2, x2, st2, q2⟩ := plantL_ok ds k st1 r2' (x1.own ow.right dj)
      exact ⟨mu2, nu2, x1.trans x2, st2, .cons (q1.keeps x2.kp) q2⟩
end
/-- planting, seen from ahead of the expression -/
theorem Stp.plt {H0 : Hp} {mu0 mu mu' : List Addr} {nu0 nu nu' : Addr → Prop} {fp : List Addr} (x : Stp H0 mu0 nu0 H mu nu) (tk : ∀ a, nu0 a → ∃ o, H0 a = some o) (fr : ∀ a, a ∈ fp → H0 a = none) (p : Plt mu nu fp mu' nu') : Stp H0 mu0 nu0 H mu' nu' where
  keep := fun a o h n => by
    obtain ⟨h1, n1, z⟩ := x.keep a o h n
    refine ⟨h1, fun m => ?_, fun q => z (p.dn a q)⟩
    obtain ⟨t, e, ht⟩ := p.ext
    rw [e] at m
    rcases List.mem_append.mp m with m | m
    · exact n1 m
    · rw [fr a (ht a m)] at h; cases h
  pre := by
    obtain ⟨t, e⟩ := x.pre
    obtain ⟨u, e', _⟩ := p.ext
    exact ⟨t ++ u, by rw [e', e, List.append_assoc]⟩
  grow := fun a z => (p.up a (x.grow a z)).elim id fun m => by
    obtain ⟨o, h⟩ := tk a z
    rw [fr a m] at h
    cases h
  trk := x.trk
  new := fun a m => by
    obtain ⟨t, e, ht⟩ := p.ext
    rw [e] at m
    rcases List.mem_append.mp m with m | m
    · exact x.new a m
    · exact .inr (fr a (ht a m))
theorem pl_ok {k : Nat} {x : E} : ∀ s H P, tE T ad b W (ev T C b (.pl k x)) s H P → tE T ad b W (ev T C b x) s H P := fun s H P h => by
  obtain ⟨mu, nu, e, S, st, p⟩ := h
  rw [ev] at p
  refine tE_bind0 st p fun v d S1 H1 mu1 nu1 fp x1 st1 ro ow fr p1 => ?_
  obtain ⟨mu2, nu2, x2, st2, r2⟩ := plant_ok d k st1 ro ow
  exact (p1.step (x1.plt st.trk fr x2) fun _ m => absurd m List.not_mem_nil).val st2 r2
end
end Dl
end

section
set_option Elab.async false
set_option linter.all false
set_option maxRecDepth 100000
set_option maxHeartbeats 1000000
/-! D20: what a def promises, with no repr under way. -/
namespace Dl
open PySem PySem.Spec PyProof.Rows L2

/-- room, no repr under way -/
structure RmG (k : Nat) (A : Around) : Prop extends Room k A where
  gd : A.guards = some []
theorem RmG.deeper {k : Nat} {A : Around} (r : RmG (k + 1) A) (env : PySem.Env) : RmG k (A.deeper env) := ⟨r.toRoom.deeper env, by
  have := r.gd
  first | exact this | (simp [Around.deeper]; exact this)⟩
theorem RmG.mono {j k : Nat} {A : Around} (r : RmG k A) (h : j ≤ k) : RmG j A := ⟨r.toRoom.mono h, r.gd⟩
theorem RmG.make {k : Nat} {A : Around} (r : RmG (k + 1) A) (C : Addr) (us : List Value) (kw : List (Str × Value)) : RmG k (A.under (.builtin "type.__call__" ⟨.ref C :: us, kw⟩)) := ⟨r.toRoom.make C us kw, by
  have := r.gd
  first | exact this | simpa [Around.under, Code.weight, Code.isCreation, Code.isGuard, Code.isCaller, Code.frames, Code.isFrame, guardIds, Code.guards, pushGuards] using this⟩
/-- a def's promise -/
structure FnG (P : Program) (w : World) (K : PySem.W.Frag) (mg : Str → Option Value) (base : Heap) (CX : CXT) (k : Nat) (f : Addr) (fd : FuncData) (ps : List Str) (sp : Sp) : Prop where
  len : ∀ vs H Q E, sp vs H Q E → vs.length = ps.length
  run : ∀ (A : Around) (outer : List PySem.Env) (s : Shared) (H : Hp) (args : Args) (us : List Value) (vs : List V) (Q : VK) (E : XK), RmG k A → Env0 P w K mg base A outer s H → BindsTo s fd args (ps.zip us) → Vals vs us → sp vs H Q E →
    codeAny (model P w) A (.call (.ref f) args) (CR CX outer P w H s Q E) s
section
variable {X : Cx} {CX : CXT} {k : Nat} {f C : Addr} {fd : FuncData} {ps ks : List Str} {sp : Sp} {E : L2.St → XK}
/-- the call's end, in a body -/
theorem back_ok {pins : List (Addr × Obj)} {σ : L2.St} {H : Hp} {s : Shared} {Q : VK} {E : XK} (hx : PassesAt CX X σ E) (I : Inv X pins σ H s) (r : Result) (s' : Shared) (h : CR CX X.stack X.prog X.w H s Q E r s') :
    match r with
    | .ok (.ret u) => EP X pins σ Q u s'
    | .ok _ => False
    | .error e => X.xe e s' := by
  cases r with
  | error e => exact hx pins H s e s' I h
  | ok fl =>
    cases fl with
    | ret u => exact I.after h
    | _ => exact h
theorem run_G {pins : List (Addr × Obj)} {σ : L2.St} {H : Hp} {s : Shared} {Q : VK} {us zs : List Value} {vs : List V} {kw : List (Str × Value)} {E : XK} (F : FnG X.prog X.w X.K X.mg X.base CX k f fd ps sp) (hr : RmG k X.A) (hb : BindsTo s fd ⟨us, kw⟩ (ps.zip zs)) (hx : PassesAt CX X σ E)
    (I : Inv X pins σ H s) (r : Vals vs zs) (h : sp vs H Q E) : wpAny (model X.prog X.w) X.A (call (.ref f) us kw) (EP X pins σ Q) X.xe s := by
  refine wpAny_call (codeAny_mono (F.run X.A X.stack s H ⟨us, kw⟩ zs vs Q E hr I.env0 hb r h) fun r s' hq => ?_)
  have := back_ok hx I r s' hq
  cases r with
  | error e => exact this
  | ok fl => cases fl <;> exact this
variable {x m : Str} {p pos apos : Pos} {e o : Expr} {es : List Expr} {ta : TE} {t tk : TA} {kws : List Keyword}
def tCallG (sp : Sp) (E : L2.St → XK) (t : TA) : TE := fun σ H Q => t σ H fun vs H1 => sp vs H1 Q (E σ)
/-- every parameter is given by its place -/
def BdG (fd : FuncData) (ps : List Str) : Prop := ∀ us : List Value, us.length = ps.length → bindArgs fd ⟨us, []⟩ = pure (ps.zip us)
theorem pe_callG (F : FnG X.prog X.w X.K X.mg X.base CX k f fd ps sp) (hr : RmG k X.A) (hg : Gl X x) (hm : X.mg x = some (.ref f)) (hk : PySem.W.keepIn X.K (.ref f) = true) (hb : BdG fd ps) (hx : ∀ σ, PassesAt CX X σ (E σ))
    (ha : PA X (e :: es) t) (hdb : (x == ("__debug__" : Str)) = false) (he : starEach (e :: es) X.env = (false, eval e X.env) :: starEach es X.env) (hpl : (backTo pos (starEach es X.env)).any (·.1) = false) :
    PE X (.Call (.Name x p) (e :: es) [] pos) (tCallG sp E t) := by
  refine ⟨fun pins s σ H Q I h => wpAny_Call_Name_kw (ld_glob I hg hm ?_ hdb)⟩
  refine PySem.W.callWith_K (h₀ := X.base) I.ok.mod.kin hk (thn (ha.run pos pins s σ H _ I h) fun us s1 ⟨vs, H1, I1, r, q⟩ => ⟨I1.kIn, ?_⟩) he hpl
  exact run_G F hr (.of_eq (hb us (by rw [← r.length]; exact F.len _ _ _ _ q))) (hx σ) I1 r q
theorem pe_callG0 (F : FnG X.prog X.w X.K X.mg X.base CX k f fd ps sp) (hr : RmG k X.A) (hg : Gl X x) (hm : X.mg x = some (.ref f)) (hk : PySem.W.keepIn X.K (.ref f) = true) (hb : BdG fd ps) (hx : ∀ σ, PassesAt CX X σ (E σ))
    (hdb : (x == ("__debug__" : Str)) = false) : PE X (.Call (.Name x p) [] [] pos) (tCallG sp E tNil) := by
  refine ⟨fun pins s σ H Q I h => wpAny_Call_Name_kw (ld_glob I hg hm ?_ hdb)⟩
  have q : sp [] H Q (E σ) := h
  exact PySem.W.callWith_K0 I.kIn hk (run_G (us := []) F hr (.of_eq (hb [] (F.len [] H Q (E σ) q))) (hx σ) I .nil q)
/-- keywords: the values in the parameters' order -/
structure KbG (fd : FuncData) (ps ks : List Str) (n : Nat) (g : ∀ {α : Type}, List α → List α → List α) : Prop where
  to : ∀ us ws : List Value, us.length = n → ws.length = ks.length → bindArgs fd ⟨us, ks.zip ws⟩ = pure (ps.zip (g us ws))
  rel : ∀ {vs : List V} {us : List Value} {zs : List V} {ws : List Value}, vs.length = n → zs.length = ks.length → Vals vs us → Vals zs ws → Vals (g vs zs) (g us ws)
def tCallKG (sp : Sp) (n m : Nat) (gV : List V → List V → List V) (E : L2.St → XK) (t tk : TA) : TE := fun σ H Q => t σ H fun vs H1 => tk σ H1 fun zs H2 => vs.length = n ∧ zs.length = m ∧ sp (gV vs zs) H2 Q (E σ)
theorem pe_callKG {g : ∀ {α : Type}, List α → List α → List α} {n : Nat} (F : FnG X.prog X.w X.K X.mg X.base CX k f fd ps sp) (hr : RmG k X.A) (hg : Gl X x) (hm : X.mg x = some (.ref f)) (hk : PySem.W.keepIn X.K (.ref f) = true) (hb : KbG fd ps ks n g) (hx : ∀ σ, PassesAt CX X σ (E σ))
    (ha : PA X (e :: es) t) (hkw : PK X kws tk) (hall : (backToKw pos (keywordEach kws X.env)).all (·.1.isSome) = true) (hks : (backToKw pos (keywordEach kws X.env)).filterMap (·.1) = ks)
    (hdb : (x == ("__debug__" : Str)) = false) (he : starEach (e :: es) X.env = (false, eval e X.env) :: starEach es X.env)
    (hpl : ((backTo pos (starEach (e :: es) X.env)).any (·.1) || (backToKw pos (keywordEach kws X.env)).any (·.1.isNone)) = false) :
    PE X (.Call (.Name x p) (e :: es) kws pos) (tCallKG sp n ks.length g E t tk) := by
  refine ⟨fun pins s σ H Q I h => wpAny_Call_Name_kw (ld_glob I hg hm ?_ hdb)⟩
  refine PySem.W.callWith_KW (h₀ := X.base) I.ok.mod.kin hk hall (thn (ha.run pos pins s σ H _ I h) fun us s1 ⟨vs, H1, I1, r, q⟩ => ?_) hpl he
  refine thn (hkw.run pos pins s1 σ H1 _ I1 q) fun ws s2 ⟨zs, H2, I2, rz, q2⟩ => ⟨I2.kIn, ?_⟩
  rw [hks]
  exact run_G F hr (.of_eq (hb.to us ws (by rw [← r.length]; exact q2.1) (by rw [← rz.length]; exact q2.2.1))) (hx σ) I2 (hb.rel q2.1 q2.2.1 r rz) q2.2.2
/-- a method -/
def tMethG (C : Addr) (m : Str) (sp : Sp) (E : L2.St → XK) (ta : TE) (t : TA) : TE := fun σ H Q => ta σ H fun x H1 => ∃ a dx fs, x = .ref a ∧ H1 a = some (.ins C dx fs) ∧ fs.lookup m = none ∧ t σ H1 fun vs H2 => sp (x :: vs) H2 Q (E σ)
theorem pe_methG {pl : Sem Bool} (he : PE X o ta) (c : Cls X.K C) (hm : L2.Meth X.K C m f) (F : FnG X.prog X.w X.K X.mg X.base CX k f fd ps sp) (hr : RmG k X.A) (hb : BdG fd ps) (hx : ∀ σ, PassesAt CX X σ (E σ)) (ha : PA X (e :: es) t)
    (hst : starEach (e :: es) X.env = (false, eval e X.env) :: starEach es X.env) (hpl : (backTo pos (starEach es X.env)).any (·.1) = false)
    (ht : eval (.Call (.Attribute o m apos) (e :: es) [] pos) X.env = (do
      let ov ← eval o X.env
      standAt apos.atName
      let (f, first) ← holding [ov] (getMethod ov m pl)
      callWith pos f first (backTo pos (starEach (e :: es) X.env)) (backToKw pos (keywordEach [] X.env)))) :
    PE X (.Call (.Attribute o m apos) (e :: es) [] pos) (tMethG C m sp E ta t) := by
  refine ⟨fun pins s σ H Q I h => PySem.W.methodCall_KW (pl := pl) (thn (he.run pins s σ H _ I h) fun u s1 ⟨x, H1, I1, rx, a, dx, fs, ex, ea, l, q⟩ => ?_) ht⟩
  subst ex
  obtain rfl : u = Value.ref a := rx
  refine getmeth_ok I1 ea c hm l (PySem.W.callWith_K (first := [.ref a]) (h₀ := X.base) I.ok.mod.kin hm.kp (thn (ha.run pos pins s1 σ H1 _ I1 q) fun us s2 ⟨vs, H2, I2, r, q2⟩ => ⟨I2.kIn, ?_⟩) hst hpl)
  have r2 : Vals (V.ref a :: vs) (Value.ref a :: us) := .cons rfl r
  exact run_G (us := .ref a :: us) F hr (.of_eq (hb _ (by rw [← r2.length]; exact F.len _ _ _ _ q2))) (hx σ) I2 r2 q2
/-- a new instance -/
def tMakeG (C : Addr) (sp : Sp) (E : L2.St → XK) (t : TA) : TE := fun σ H Q => t σ H fun vs H1 => ∀ x dx, H1 x = none → H1 dx = none → dx ≠ x →
  sp (.ref x :: vs) (upd (upd H1 dx (.own x)) x (.ins C dx [])) (fun v H2 => v = .non ∧ Q (.ref x) H2) (E σ)
theorem pe_makeG (M : Mk X.K C f) (F : FnG X.prog X.w X.K X.mg X.base CX k f fd ps sp) (hr : RmG (k + 1) X.A) (hg : Gl X x) (hm : X.mg x = some (.ref C)) (hb : BdG fd ps) (hx : ∀ σ, PassesAt CX X σ (E σ))
    (ha : PA X (e :: es) t) (hdb : (x == ("__debug__" : Str)) = false) (he : starEach (e :: es) X.env = (false, eval e X.env) :: starEach es X.env) (hpl : (backTo pos (starEach es X.env)).any (·.1) = false) :
    PE X (.Call (.Name x p) (e :: es) [] pos) (tMakeG C sp E t) := by
  refine ⟨fun pins s σ H Q I h => wpAny_Call_Name_kw (ld_glob I hg hm ?_ hdb)⟩
  refine PySem.W.callWith_K (h₀ := X.base) I.ok.mod.kin M.kp (thn (ha.run pos pins s σ H _ I h) fun us s1 ⟨vs, H1, I1, r, q⟩ => ⟨I1.kIn, ?_⟩) he hpl
  have hq := q (s1.heap.objs.size + 1) s1.heap.objs.size (I1.hok.fresh (Nat.le_succ _)) (I1.hok.fresh (Nat.le_refl _)) (Nat.ne_of_lt (Nat.lt_succ_self _))
  have I2 := Inv.made (C := C) I1
  have r2 : Vals (V.ref (s1.heap.objs.size + 1) :: vs) (Value.ref (s1.heap.objs.size + 1) :: us) := .cons rfl r
  refine wpAny_call (make_map (f := f) I1.kIn M.makes M.init (beq_iff_eq.mp M.fn) (codeAny_mono (F.run _ X.stack _ _ ⟨Value.ref (s1.heap.objs.size + 1) :: us, []⟩ _ _ _ (E σ) (hr.make C us []) (I2.env0.make C us [])
    (.of_eq (hb _ (by rw [← r2.length]; exact F.len _ _ _ _ hq))) r2 hq) fun r s' hq' => ?_))
  have bk := back_ok (hx σ) I2 r s' hq'
  cases r with
  | error e => exact bk
  | ok fl =>
    cases fl with
    | ret u =>
      obtain ⟨v, H', I3, rv, ev, q3⟩ := bk
      subst ev
      exact ⟨rv, ⟨V.ref (s1.heap.objs.size + 1), H', I3, rfl, q3⟩⟩
    | _ => exact bk.elim
end
/-- a def by its body -/
theorem fn_G {CX : CXT} {P : Program} {w : World} {K : PySem.W.Frag} {mg : Str → Option Value} {base : Heap} {k : Nat} {f : Addr} {name qual : Str} {params : Arguments} {body : List Stmt} {scope : Scope} {dV kV doc pm cdv ct oc : Value} {an od : Option Addr}
    {osl : Array (Option Value)} {N ps : List Str} {sp : Sp} (lk : K.lookup f = some ⟨oc, od, .func (PySem.W.fnOf name qual params body scope dV kV doc pm an cdv ct), osl⟩) (hcd : PySem.W.codeIn K cdv qual = true) (S : FnScope N ps scope)
    (len : ∀ vs H Q E, sp vs H Q E → vs.length = ps.length)
    (hbody : ∀ (A : Around) (outer : List PySem.Env) (s : Shared) (H : Hp) (vs : List V) (Q : VK) (E : XK), RmG k (A.deeper (envOfC qual scope s.heap.objs.size f cdv)) → sp vs H Q E →
      ∃ t, PSs (cxOf CX P w K mg base N qual scope f cdv A outer s H E) body t ∧ t { nx := fun _ H' => Q .non H', rt := Q } (start N vs) H) :
    FnG P w K mg base CX (k + 1) f (PySem.W.fnOf name qual params body scope dV kV doc pm an cdv ct) ps sp := by
  refine ⟨len, fun A outer s H args us vs Q E hr e0 hb r hsp => ?_⟩
  have KX : K.In s.heap := e0.mod.kin.keeps fun a o z => (e0.bs a o z).1
  have nol : s.heap.NoLimit := e0.mod.nolimit.keeps fun a o z => (e0.bs a o z).1
  have places : ∀ y ∈ ps.zip us, scope.names.lookup y.1 = some .local ∨ (scope.names.lookup y.1 = some .cell ∧ ((cellsFrom (s.heap.objs.size + 1) scope.names []).lookup y.1).isSome = true) := by
    rintro ⟨n, v⟩ hy
    rcases S.par n (List.of_mem_zip hy).1 with z | z
    · exact .inl z
    · exact .inr ⟨z, PySem.W.cellsFrom_some _ _ _ (.inl z)⟩
  refine codeAny_call_function hr.toRoom.depth (KX _ _ lk) rfl S.co S.gen rfl (PySem.W.codeRec_of KX hcd) (hb _ _ _ _ ?_)
  refine wpAny_newFunctionEnv_cells S.kind places fun env he s1 x => ?_
  subst he
  refine ⟨nol.keeps x.toInCall.keep, codeAny_func ?_⟩
  obtain ⟨t, ht, hq⟩ := hbody A outer s H vs Q E (hr.deeper _) hsp
  have I0 : Inv (cxOf CX P w K mg base N qual scope f cdv A outer s H E) [] (start N vs) H s1 := inv_start S hr.toRoom.hd e0 (len _ _ _ _ hsp) r x
  have done : ∀ {σ' : L2.St} {H' : Hp} {v : V} {u : Value} {s' : Shared}, Inv (cxOf CX P w K mg base N qual scope f cdv A outer s H E) [] σ' H' s' → RelV v u → Q v H' → CE outer P w H s Q u s' :=
    fun {σ' H' v u s'} J rv q => ⟨v, H', J.os, J.bare, J.base, J.hok, rv, q⟩
  refine wpAny_mono (ht.run [] s1 (start N vs) H _ I0 hq) (fun fl s' hs => ?_) fun _ _ hs => hs
  cases fl with
  | next => exact let ⟨_, _, J, q⟩ := hs; done (v := V.non) (u := Value.none) J rfl q
  | ret u => exact let ⟨_, _, _, J, rv, q⟩ := hs; done J rv q
  | brk => exact let ⟨_, _, _, q⟩ := hs; q.elim
  | cont => exact let ⟨_, _, _, q⟩ := hs; q.elim
end Dl
end

section
set_option Elab.async false
set_option linter.all false
set_option maxRecDepth 100000
set_option maxHeartbeats 1000000
/-! D21: a def's own cells go at its end. -/
namespace Dl
open PySem PySem.Spec PyProof.Rows L2
section
variable {T : Pg} {ad : Ad} {b : Nat} {bs : List Nat} {s : L2.St} {e : Env} {S : Sto} {H : Hp} {mu : List Addr} {nu : Addr → Prop}
mutual
theorem Rep.noR : ∀ {v : V} (d : D), Rep T ad H mu nu v d → Dl.noR mu.length d = true
  | _, .non, _ => rfl
  | _, .bl _, _ => rfl
  | _, .int _, _ => rfl
  | _, .str _, _ => rfl
  | _, .tup ds, h => by cases h with | tup n e r => exact RepL.noR ds r
  | _, .lst o ds, h => by cases h with | lst n e r => exact RepL.noR ds r
  | _, .dic o ks ds, h => by cases h with | dic n e r => exact RepL.noR ds r
  | _, .set _ _, _ => rfl
  | _, .ins o c ds, h => by cases h with | ins hI n e l r => exact RepL.noR ds r
  | _, .ref n, h => by cases h with | ref e => exact decide_eq_true (List.getElem?_eq_some_iff.mp e).1
  | _, .fn _, _ => rfl
  | _, .cls _, _ => rfl
  | _, .exc _ _, h => by cases h
theorem RepL.noR : ∀ {vs : List V} (ds : List D), RepL T ad H mu nu vs ds → Dl.noRL mu.length ds = true
  | _, [], _ => rfl
  | _, d :: ds, h => by
    cases h with
    | cons h1 h2 =>
      show (Dl.noR mu.length d && Dl.noRL mu.length ds) = true
      rw [Rep.noR d h1, RepL.noR ds h2]
      rfl
end
mutual
/-- data without the cells from b on -/
theorem Rep.cut : ∀ {v : V} (d : D), Rep T ad H mu nu v d → Dl.noR b d = true → Rep T ad H (mu.take b) nu v d
  | _, .non, h, _ => by cases h; exact .non
  | _, .bl _, h, _ => by cases h; exact .bl _
  | _, .int _, h, _ => by cases h; exact .int _
  | _, .str _, h, _ => by cases h; exact .str _
  | _, .tup ds, h, q => by cases h with | tup n e r => exact .tup n e (RepL.cut ds r q)
  | _, .lst o ds, h, q => by cases h with | lst n e r => exact .lst n e (RepL.cut ds r q)
  | _, .dic o ks ds, h, q => by cases h with | dic n e r => exact .dic n e (RepL.cut ds r q)
  | _, .set _ _, h, _ => by cases h
  | _, .ins o c ds, h, q => by cases h with | ins hI n e l r => exact .ins hI n e l (RepL.cut ds r q)
  | _, .ref n, h, q => by cases h with | ref e => exact .ref (by rw [List.getElem?_take_of_lt (of_decide_eq_true q)]; exact e)
  | _, .fn _, h, _ => by cases h; exact .fn _
  | _, .cls _, h, _ => by cases h
  | _, .exc _ _, h, _ => by cases h
theorem RepL.cut : ∀ {vs : List V} (ds : List D), RepL T ad H mu nu vs ds → Dl.noRL b ds = true → RepL T ad H (mu.take b) nu vs ds
  | _, [], h, _ => by cases h; exact .nil
  | _, d :: ds, h, q => by
    cases h with
    | cons h1 h2 =>
      have q' : Dl.noR b d = true ∧ Dl.noRL b ds = true := Bool.and_eq_true_iff.mp q
      exact .cons (Rep.cut d h1 q'.1) (RepL.cut ds h2 q'.2)
end
mutual
theorem RepO.cut : ∀ {v : V} (d : D) {fp : List Addr}, RepO T ad H mu nu v d fp → Dl.noR b d = true → RepO T ad H (mu.take b) nu v d fp
  | _, .non, _, h, q => by cases h with | of r => exact .of (r.cut _ q)
  | _, .bl _, _, h, q => by cases h with | of r => exact .of (r.cut _ q)
  | _, .int _, _, h, q => by cases h with | of r => exact .of (r.cut _ q)
  | _, .str _, _, h, q => by cases h with | of r => exact .of (r.cut _ q)
  | _, .tup ds, _, h, q => by
    cases h with
    | of r => exact .of (r.cut _ q)
    | tup n e r => exact .tup n e (RepOL.cut ds r q)
  | _, .lst o ds, _, h, q => by
    cases h with
    | of r => exact .of (r.cut _ q)
    | lst n e r => exact .lst (fun m => n (List.mem_of_mem_take m)) e (RepOL.cut ds r q)
  | _, .dic o ks ds, _, h, q => by
    cases h with
    | of r => exact .of (r.cut _ q)
    | dic n e r => exact .dic (fun m => n (List.mem_of_mem_take m)) e (RepOL.cut ds r q)
  | _, .set _ _, _, h, q => by cases h with | of r => exact .of (r.cut _ q)
  | _, .ins o c ds, _, h, q => by
    cases h with
    | of r => exact .of (r.cut _ q)
    | ins hI n e l r => exact .ins hI (fun m => n (List.mem_of_mem_take m)) e l (RepOL.cut ds r q)
  | _, .ref _, _, h, q => by cases h with | of r => exact .of (r.cut _ q)
  | _, .fn _, _, h, q => by cases h with | of r => exact .of (r.cut _ q)
  | _, .cls _, _, h, q => by cases h with | of r => exact .of (r.cut _ q)
  | _, .exc _ _, _, h, q => by cases h with | of r => exact .of (r.cut _ q)
theorem RepOL.cut : ∀ {vs : List V} (ds : List D) {fp : List Addr}, RepOL T ad H mu nu vs ds fp → Dl.noRL b ds = true → RepOL T ad H (mu.take b) nu vs ds fp
  | _, [], _, h, _ => by cases h; exact .nil
  | _, d :: ds, _, h, q => by
    cases h with
    | cons h1 h2 =>
      have q' : Dl.noR b d = true ∧ Dl.noRL b ds = true := Bool.and_eq_true_iff.mp q
      exact .cons (RepO.cut d h1 q'.1) (RepOL.cut ds h2 q'.2)
end
/-- the store alone -/
theorem Sta.cut (st : Sta T ad bs H mu nu s e S) (hb : b ∈ bs) {cs : List Nat} (hc : ∀ β, β ∈ cs → β ∈ bs ∧ β ≤ b) : Sta T ad cs H (mu.take b) nu [] [] (S.take b) where
  len := rfl
  env := fun i d h => by simp at h
  num := by rw [List.length_take, List.length_take, st.num]
  cel := fun n a c h1 h2 => by
    by_cases hn : n < b
    · rw [List.getElem?_take_of_lt hn] at h1 h2
      have q := st.old b hb n c hn h2
      cases st.cel n a c h1 h2 with
      | lst x r => exact .lst x (r.cut _ q)
      | dic x r => exact .dic x (r.cut _ q)
      | ins hI x l r => exact .ins hI x l (r.cut _ q)
    · rw [List.getElem?_eq_none (by rw [List.length_take]; omega)] at h1
      cases h1
  nd := st.nd.sublist (List.take_sublist _ _)
  sub := fun a m => st.sub a (List.mem_of_mem_take m)
  trk := st.trk
  old := fun β hβ n c hn h => by
    rw [List.getElem?_take_of_lt (Nat.lt_of_lt_of_le hn (hc β hβ).2)] at h
    exact st.old β (hc β hβ).1 n c hn h
  bse := fun β hβ => by
    rw [List.length_take]
    have := st.bse b hb
    have := (hc β hβ).2
    omega
theorem Stp.cut {H0 : Hp} {mu0 : List Addr} {nu0 : Addr → Prop} (x : Stp H0 mu0 nu0 H mu nu) (hb : mu0.length = b) : Stp H0 mu0 nu0 H (mu.take b) nu ∧ mu.take b = mu0 := by
  obtain ⟨t, e⟩ := x.pre
  have e2 : mu.take b = mu0 := by rw [e, ← hb, List.take_left]
  refine ⟨⟨fun a o h n => ?_, ⟨[], by rw [e2, List.append_nil]⟩, x.grow, x.trk, fun a m => .inl (e2 ▸ m)⟩, e2⟩
  obtain ⟨h1, h2, h3⟩ := x.keep a o h n
  exact ⟨h1, fun m => h2 (List.mem_of_mem_take m), h3⟩
/-! ### pulling -/
/-- the addresses of the cells ns, each from b on -/
abbrev Cells (mu : List Addr) (b : Nat) : List Nat → List Addr → Prop := Paired fun n a => mu[n]? = some a ∧ b ≤ n
theorem Cells.app : ∀ {ns ms : List Nat} {A B : List Addr}, Cells mu b ns A → Cells mu b ms B → Cells mu b (ns ++ ms) (A ++ B)
  | _, _, _, _, .nil, h => h
  | _, _, _, _, .cons x t, h => .cons x (Cells.app t h)
/-- what pulling gives -/
def PullsTo (T : Pg) (ad : Ad) (b : Nat) (H : Hp) (mu : List Addr) (nu : Addr → Prop) (v : V) (fp : List Addr) (rs : List Nat) (y : D) (rs' : List Nat) : Prop :=
  ∃ ns A fp', rs' = ns ++ rs ∧ Cells mu b ns A ∧ RepO T ad H (mu.take b) nu v y fp' ∧ fp'.Perm (fp ++ A)
def PullsToL (T : Pg) (ad : Ad) (b : Nat) (H : Hp) (mu : List Addr) (nu : Addr → Prop) (vs : List V) (fp : List Addr) (rs : List Nat) (ys : List D) (rs' : List Nat) : Prop :=
  ∃ ns A fp', rs' = ns ++ rs ∧ Cells mu b ns A ∧ RepOL T ad H (mu.take b) nu vs ys fp' ∧ fp'.Perm (fp ++ A)
theorem pullA_ok {g : D → List Nat → Option (D × List Nat)} (ih : ∀ {d : D} {v : V} {fp : List Addr} {rs rs' : List Nat} {y : D}, RepO T ad H mu nu v d fp → g d rs = some (y, rs') → PullsTo T ad b H mu nu v fp rs y rs') :
    ∀ {ds : List D} {vs : List V} {fp : List Addr} {rs rs' : List Nat} {ys : List D}, RepOL T ad H mu nu vs ds fp → pullA g ds rs = some (ys, rs') → PullsToL T ad b H mu nu vs fp rs ys rs'
  | [], _, _, rs, rs', ys, r, h => by
    cases r
    simp only [pullA, Option.some.injEq, Prod.mk.injEq] at h
    obtain ⟨rfl, rfl⟩ := h
    exact ⟨[], [], [], rfl, .nil, .nil, .nil⟩
  | d :: ds, _, _, rs, rs', ys, r, h => by
    cases r with
    | @cons v _ vs _ f1 f2 r1 r2 =>
      unfold pullA at h
      cases h1 : g d rs with
      | none => rw [h1] at h; cases h
      | some p =>
        rw [h1] at h
        dsimp only at h
        cases h2 : pullA g ds p.2 with
        | none => rw [h2] at h; cases h
        | some q =>
          rw [h2] at h
          cases h
          obtain ⟨n1, A1, g1, e1, c1, q1, p1⟩ := ih r1 h1
          obtain ⟨n2, A2, g2, e2, c2, q2, p2⟩ := pullA_ok ih r2 h2
          refine ⟨n2 ++ n1, A2 ++ A1, g1 ++ g2, by rw [e2, e1, List.append_assoc], c2.app c1, .cons q1 q2, ?_⟩
          have a1 : (g1 ++ g2).Perm ((f1 ++ A1) ++ (f2 ++ A2)) := p1.append p2
          refine a1.trans ?_
          rw [List.append_assoc, List.append_assoc]
          refine List.Perm.append_left f1 ?_
          have a2 : (A1 ++ (f2 ++ A2)).Perm ((f2 ++ A2) ++ A1) := List.perm_append_comm
          refine a2.trans ?_
          rw [List.append_assoc]
theorem pull_ok (st : Sta T ad bs H mu nu s e S) : ∀ (f : Nat) {d : D} {v : V} {fp : List Addr} {rs rs' : List Nat} {y : D}, RepO T ad H mu nu v d fp → pull S b f d rs = some (y, rs') → PullsTo T ad b H mu nu v fp rs y rs' := by
  have flat : ∀ {d : D} {v : V} {fp : List Addr} {rs rs' : List Nat} {y : D}, RepO T ad H mu nu v d fp → (if Dl.noR b d then some (d, rs) else none) = some (y, rs') → PullsTo T ad b H mu nu v fp rs y rs' := by
    intro d v fp rs rs' y r h
    split at h
    · rename_i hn
      cases h
      exact ⟨[], [], fp, rfl, .nil, r.cut _ hn, by rw [List.append_nil]⟩
    · cases h
  intro f
  induction f with
  | zero =>
    intro d v fp rs rs' y r h
    exact flat r (by cases d <;> exact h)
  | succ f ih =>
    have ihl := fun {ds vs fp rs rs' ys} => @pullA_ok T ad b H mu nu (pull S b f) (fun {d v fp rs rs' y} => @ih d v fp rs rs' y) ds vs fp rs rs' ys
    have up : ∀ {n : Nat} {a : Addr}, mu[n]? = some a → ¬ n < b → a ∉ mu.take b := fun {n a} hn hb m => by
      obtain ⟨k, hk⟩ := List.getElem?_of_mem m
      have hkb : k < b := by
        have := (List.getElem?_eq_some_iff.mp hk).1
        rw [List.length_take] at this
        omega
      rw [List.getElem?_take_of_lt hkb] at hk
      obtain ⟨l1, e1⟩ := List.getElem?_eq_some_iff.mp hn
      obtain ⟨l2, e2⟩ := List.getElem?_eq_some_iff.mp hk
      have := (List.getElem_inj st.nd).mp (e1.trans e2.symm)
      omega
    have fix : ∀ {a : Addr} {n : Nat} {A g : List Addr} {ns rs rs' : List Nat}, rs' = ns ++ (n :: rs) → Cells mu b ns A → g.Perm ([] ++ A) → mu[n]? = some a → ¬ n < b →
        rs' = (ns ++ [n]) ++ rs ∧ Cells mu b (ns ++ [n]) (A ++ [a]) ∧ (a :: g).Perm ([] ++ (A ++ [a])) := by
      intro a n A g ns rs rs' e1 c1 p1 hn hb
      refine ⟨by rw [e1, List.append_assoc]; rfl, c1.app (.cons ⟨hn, Nat.le_of_not_lt hb⟩ .nil), ?_⟩
      rw [List.nil_append] at p1 ⊢
      exact (p1.cons a).trans (List.perm_append_singleton a A).symm
    intro d v fp rs rs' y r h
    cases d with
    | ref n =>
      obtain ⟨a, rfl, rfl, ha⟩ := r.ref
      rw [pull] at h
      split at h
      · rename_i hn
        cases h
        exact ⟨[], [], [], rfl, .nil, .of (.ref (by rw [List.getElem?_take_of_lt hn]; exact ha)), .nil⟩
      · rename_i hn
        split at h
        · rename_i o xs hS
          split at h
          · rename_i ys rs2 hp
            cases h
            cases st.cel n a _ ha hS with
            | lst q rl =>
              obtain ⟨ns, A, g, e1, c1, q1, p1⟩ := ihl rl.ofL hp
              obtain ⟨z1, z2, z3⟩ := fix e1 c1 p1 ha hn
              exact ⟨_, _, _, z1, z2, .lst (up ha hn) q q1, z3⟩
          · cases h
        · rename_i o ks xs hS
          split at h
          · rename_i ys rs2 hp
            cases h
            cases st.cel n a _ ha hS with
            | dic q rl =>
              obtain ⟨ns, A, g, e1, c1, q1, p1⟩ := ihl rl.ofL hp
              obtain ⟨z1, z2, z3⟩ := fix e1 c1 p1 ha hn
              exact ⟨_, _, _, z1, z2, .dic (up ha hn) q q1, z3⟩
          · cases h
        · rename_i o c xs hS
          split at h
          · rename_i ys rs2 hp
            cases h
            cases st.cel n a _ ha hS with
            | ins hI q l rl =>
              obtain ⟨ns, A, g, e1, c1, q1, p1⟩ := ihl rl.ofL hp
              obtain ⟨z1, z2, z3⟩ := fix e1 c1 p1 ha hn
              exact ⟨_, _, _, z1, z2, .ins hI (up ha hn) q l q1, z3⟩
          · cases h
        · cases h
    | tup xs =>
      obtain ⟨a, vs, rfl, n, ht, rl⟩ := r.tup_
      rw [pull] at h
      split at h
      · rename_i ys rs2 hp
        cases h
        obtain ⟨ns, A, g, e1, c1, q1, p1⟩ := ihl rl hp
        exact ⟨ns, A, g, e1, c1, .tup n ht q1, p1⟩
      · cases h
    | lst o xs =>
      cases o with
      | false => exact flat r h
      | true =>
        rw [pull] at h
        split at h
        · rename_i ys rs2 hp
          cases h
          cases r with
          | of r => cases r
          | lst hm ha rl =>
            obtain ⟨ns, A, g, e1, c1, q1, p1⟩ := ihl rl hp
            exact ⟨ns, A, _, e1, c1, .lst (fun m => hm (List.mem_of_mem_take m)) ha q1, p1.cons _⟩
        · cases h
    | non => exact flat r h
    | bl _ => exact flat r h
    | int _ => exact flat r h
    | str _ => exact flat r h
    | dic _ _ _ => exact flat r h
    | set _ _ => exact flat r h
    | ins _ _ _ => exact flat r h
    | fn _ => exact flat r h
    | cls _ => exact flat r h
    | exc _ _ => exact flat r h
end
end Dl
end

section
set_option Elab.async false
set_option linter.all false
set_option maxRecDepth 100000
set_option maxHeartbeats 1000000
/-! D22: a call, from the callee's side and the caller's. -/
namespace Dl
open PySem PySem.Spec PyProof.Rows L2
section
variable {T : Pg} {ad : Ad} {bs cs : List Nat} {W : WX} {s : L2.St} {e : Env} {S S0 : Sto} {H H0 : Hp} {mu mu0 : List Addr} {nu nu0 : Addr → Prop}
theorem cells_nodup {b : Nat} (nd : mu.Nodup) : ∀ {ns : List Nat} {A : List Addr}, Cells mu b ns A → ns.Nodup → A.Nodup
  | _, _, .nil, _ => List.nodup_nil
  | n :: ns, a :: A, .cons x t, h => by
    obtain ⟨h1, h2⟩ := List.nodup_cons.mp h
    refine List.nodup_cons.mpr ⟨fun m => ?_, cells_nodup nd t h2⟩
    have key : ∀ {ns : List Nat} {A : List Addr}, Cells mu b ns A → a ∈ A → n ∈ ns := by
      intro ns A c
      induction c with
      | nil => intro m; cases m
      | cons y t ih =>
        intro m
        rcases List.mem_cons.mp m with z | m
        · subst z
          obtain ⟨l1, e1⟩ := List.getElem?_eq_some_iff.mp x.1
          obtain ⟨l2, e2⟩ := List.getElem?_eq_some_iff.mp y.1
          rw [(List.getElem_inj nd).mp (e1.trans e2.symm)]
          exact List.mem_cons_self
        · exact List.mem_cons_of_mem _ (ih m)
    exact h1 (key t m)
theorem cells_mem {b : Nat} : ∀ {ns : List Nat} {A : List Addr} {a : Addr}, Cells mu b ns A → a ∈ A → ∃ n, mu[n]? = some a ∧ b ≤ n
  | _, _, _, .nil, m => absurd m List.not_mem_nil
  | _, _, _, .cons x t, m => by
    rcases List.mem_cons.mp m with z | m
    · subst z; exact ⟨_, x⟩
    · exact cells_mem t m
/-- behind a def's body: its own cells go -/
theorem leave_ok {b : Nat} {d d' : D} {S' : Sto} {v : V} {fp : List Addr} (x : Stp H0 mu0 nu0 H mu nu) (tk : ∀ a, nu0 a → ∃ o, H0 a = some o) (hl : mu0.length = b) (hb : b ∈ bs) (hc : ∀ β, β ∈ cs → β ∈ bs ∧ β ≤ b) (st : Sta T ad bs H mu nu s e S)
    (ro : RepO T ad H mu nu v d fp) (ow : Own nu fp) (fr : ∀ a, a ∈ fp → H0 a = none) (h : leave b d S = some (d', S')) :
    ∃ mu' nu' fp', Stp H0 mu0 nu0 H mu' nu' ∧ Sta T ad cs H mu' nu' [] [] S' ∧ RepO T ad H mu' nu' v d' fp' ∧ Own nu' fp' ∧ ∀ a, a ∈ fp' → H0 a = none := by
  obtain ⟨x1, em⟩ := x.cut hl
  have st1 := st.cut hb hc
  unfold leave at h
  split at h
  · rename_i hle
    cases h
    have e1 : S.take b = S := List.take_of_length_le hle
    have e2 : mu.take b = mu := List.take_of_length_le (by rw [← st.num]; exact hle)
    rw [e1, e2] at st1
    rw [e2] at x1
    exact ⟨mu, nu, fp, x1, st1, ro, ow, fr⟩
  · split at h
    · rename_i hn
      cases h
      exact ⟨_, nu, fp, x1, st1, ro.cut _ hn, ow, fr⟩
    · split at h
      · rename_i y rs hp
        obtain ⟨ns, A, fp', e1, c1, q1, p1⟩ := pull_ok st 12 ro hp
        rw [List.append_nil] at e1
        subst e1
        have fresh : ∀ a, a ∈ fp' → H0 a = none := fun a m => by
          rcases List.mem_append.mp (p1.mem_iff.mp m) with m | m
          · exact fr a m
          · obtain ⟨n, hn, hbn⟩ := cells_mem c1 m
            rcases x.new a (List.mem_of_getElem? hn) with z | z
            · exfalso
              obtain ⟨k, hk⟩ := List.getElem?_of_mem z
              have hkl := (List.getElem?_eq_some_iff.mp hk).1
              have hk2 := x.get hk
              obtain ⟨l1, e1⟩ := List.getElem?_eq_some_iff.mp hn
              obtain ⟨l2, e2⟩ := List.getElem?_eq_some_iff.mp hk2
              have := (List.getElem_inj st.nd).mp (e1.trans e2.symm)
              omega
            · exact z
        have inu : ∀ a, a ∈ fp' → nu a := fun a m => by
          rcases List.mem_append.mp (p1.mem_iff.mp m) with m | m
          · exact ow.2 a m
          · obtain ⟨n, hn, _⟩ := cells_mem c1 m
            exact st.sub a (List.mem_of_getElem? hn)
        split at h
        · rename_i hnd
          cases h
          refine ⟨_, nu, fp', x1, st1, q1, ⟨?_, inu⟩, fresh⟩
          refine p1.nodup_iff.mpr (List.nodup_append.mpr ⟨ow.1, cells_nodup st.nd c1 hnd, fun a ma c mc z => ?_⟩)
          subst z
          obtain ⟨n, hn, _⟩ := cells_mem c1 mc
          exact ro.notmu _ a ma (List.mem_of_getElem? hn)
        · cases h
          have nm : ∀ a, a ∈ fp' → a ∉ mu.take b := fun a m => q1.notmu _ a m
          exact ⟨_, Dl.less nu fp', [], x1.less tk fresh, st1.less nm, .of (q1.frz (fun a z => z.1) _ fun a m z => z.2 m), .nil, fun a m => absurd m List.not_mem_nil⟩
      · cases h
theorem leaveL_ok {b : Nat} {ds ds' : List D} {S' : Sto} {vs : List V} (x : Stp H0 mu0 nu0 H mu nu) (hl : mu0.length = b) (hb : b ∈ bs) (hc : ∀ β, β ∈ cs → β ∈ bs ∧ β ≤ b) (st : Sta T ad bs H mu nu s e S)
    (rl : RepL T ad H mu nu vs ds) (h : leaveL b ds S = some (ds', S')) : ∃ mu', Stp H0 mu0 nu0 H mu' nu ∧ Sta T ad cs H mu' nu [] [] S' ∧ RepL T ad H mu' nu vs ds' := by
  obtain ⟨x1, em⟩ := x.cut hl
  have st1 := st.cut hb hc
  unfold leaveL at h
  split at h
  · rename_i hle
    cases h
    have e1 : S.take b = S := List.take_of_length_le hle
    have e2 : mu.take b = mu := List.take_of_length_le (by rw [← st.num]; exact hle)
    rw [e1, e2] at st1
    rw [e2] at x1
    exact ⟨mu, x1, st1, rl⟩
  · split at h
    · rename_i hn
      cases h
      exact ⟨_, x1, st1, rl.cut _ hn⟩
    · cases h
/-- the store at a call -/
theorem Sta.enter (st : Sta T ad bs H mu nu s e S) : Sta T ad (S.length :: bs) H mu nu [] [] S where
  len := rfl
  env := fun i d h => by simp at h
  num := st.num
  cel := st.cel
  nd := st.nd
  sub := st.sub
  trk := st.trk
  old := fun β hβ n c hn h => by
    rcases List.mem_cons.mp hβ with z | hβ
    · subst z
      obtain ⟨a, ha, hc⟩ := st.has h
      rw [st.num]
      cases hc with
      | lst q r => exact r.noR _
      | dic q r => exact r.noR _
      | ins hI q l r => exact r.noR _
    · exact st.old β hβ n c hn h
  bse := fun β hβ => by
    rcases List.mem_cons.mp hβ with z | hβ
    · subst z; exact Nat.le_refl _
    · exact st.bse β hβ
/-- with names -/
theorem Sta.withE (st : Sta T ad bs H mu nu [] [] S) (hl : e.length = s.length) (he : ∀ (i : Nat) (d : D), e[i]? = some (some d) → ∃ v, s[i]? = some (some v) ∧ EnvAt T ad H mu nu i v d) : Sta T ad bs H mu nu s e S where
  len := hl
  env := he
  num := st.num
  cel := st.cel
  nd := st.nd
  sub := st.sub
  trk := st.trk
  old := st.old
  bse := st.bse
/-- behind a call, the caller's names -/
theorem Sta.back (st0 : Sta T ad bs H0 mu0 nu0 s e S0) (x : Stp H0 mu0 nu0 H mu nu) (st : Sta T ad bs H mu nu [] [] S) : Sta T ad bs H mu nu s e S :=
  st.withE st0.len fun i d h => by
    obtain ⟨v, h1, r⟩ := st0.env i d h
    exact ⟨v, h1, r.keeps (x.keeps st0.sub)⟩
/-- an exception's wish, without names -/
def wX (E : XK) : WX := fun c d _ H => E c d H
/-- what a def promises -/
def spG (T : Pg) (ad : Ad) (F : List Nat → Nat → List D → Sto → R D) (k : Nat) : Sp := fun vs H Q E => ∃ bs mu nu S ds, Sta T ad bs H mu nu [] [] S ∧ RepL T ad H mu nu vs ds ∧ Pst T ad bs (wX E) [] [] (F bs k ds S) H mu nu [] Q
/-- the wish of a call's exception within a body, the names' values known -/
def eX (W : WX) (s : L2.St) : XK := fun c d H => W c d s H
/-- the call, from the caller's side -/
theorem call_sp {F : List Nat → Nat → List D → Sto → R D} {k : Nat} {vs : List V} {ds : List D} {P : VK} (st : Sta T ad bs H mu nu s e S) (rl : RepL T ad H mu nu vs ds) (p : Pst T ad bs W s e (F bs k ds S) H mu nu [] P) : spG T ad F k vs H P (eX W s) := by
  have st1 : Sta T ad bs H mu nu [] [] S := ⟨rfl, fun i d h => by simp at h, st.num, st.cel, st.nd, st.sub, st.trk, st.old, st.bse⟩
  refine ⟨bs, mu, nu, S, ds, st1, rl, ?_⟩
  cases h : F bs k ds S with
  | ok d S1 =>
    rw [h] at p
    intro v H1 mu1 nu1 fp x1 st2 ro ow fr
    exact p v H1 mu1 nu1 fp x1 (st.back x1 st2) ro ow fr
  | ex c xs S1 =>
    rw [h] at p
    intro H1 mu1 nu1 dx Vs x1 st2 rl nx hx
    exact p H1 mu1 nu1 dx Vs x1 (st.back x1 st2) rl nx hx
  | er =>
    rw [h] at p
    exact p
end
section
variable {T : Pg} {ad : Ad} {b : List Nat} {W : WX} {X : Cx} {K : PySem.W.Frag} {C : List Nat → Nat → List D → Sto → R D}
theorem call_ok {k : Nat} {es : List E} : ∀ s H P, tE T ad b W (ev T C b (.call k es)) s H P → tCallG (spG T ad C k) (eX W) (tA T ad b W (evs T C b es)) s H P := fun s H P h => by
  obtain ⟨mu, nu, e, S, st, p⟩ := h
  rw [ev] at p
  refine tA_bind0 st p fun vs ds S1 H1 mu1 nu1 fp x1 st1 ro ow fr p1 => ?_
  obtain ⟨x2, st2, rl⟩ := land x1 st st1 ro fr
  exact call_sp st2 rl (p1.step x2 fun _ m => absurd m List.not_mem_nil)
end
end Dl
end

section
set_option Elab.async false
set_option linter.all false
set_option maxRecDepth 100000
set_option maxHeartbeats 1000000
/-! D23: statements. -/
namespace Dl
open PySem PySem.Spec PyProof.Rows L2
section
variable {T : Pg} {ad : Ad} {b : List Nat} {W : WX} {X : Cx} {K : PySem.W.Frag} {C : List Nat → Nat → List D → Sto → R D}
variable {s : L2.St} {e : Env} {S : Sto} {H : Hp} {mu : List Addr} {nu : Addr → Prop}
theorem Sta.setv {i : Nat} {v : V} {d : D} (st : Sta T ad b H mu nu s e S) (r : Rep T ad H mu nu v d) : Sta T ad b H mu nu (s.set i (some v)) (e.set i (some d)) S := by
  refine ⟨by rw [List.length_set, List.length_set]; exact st.len, fun j d' h => ?_, st.num, st.cel, st.nd, st.sub, st.trk, st.old, st.bse⟩
  rw [set_get] at h ⊢
  split at h
  · rename_i hh
    cases h
    exact ⟨v, by rw [if_pos ⟨hh.1, st.len ▸ hh.2⟩], .of r⟩
  · rename_i hh
    obtain ⟨w, h1, h2⟩ := st.env j d' h
    refine ⟨w, ?_, h2⟩
    rw [if_neg fun z => hh ⟨z.1, by rw [st.len]; exact z.2⟩]
    exact h1
theorem Sta.delv {i : Nat} (st : Sta T ad b H mu nu s e S) : Sta T ad b H mu nu (s.set i none) (e.set i none) S := by
  refine ⟨by rw [List.length_set, List.length_set]; exact st.len, fun j d' h => ?_, st.num, st.cel, st.nd, st.sub, st.trk, st.old, st.bse⟩
  rw [set_get] at h ⊢
  split at h
  · cases h
  · rename_i hh
    obtain ⟨w, h1, h2⟩ := st.env j d' h
    refine ⟨w, ?_, h2⟩
    rw [if_neg fun z => hh ⟨z.1, by rw [st.len]; exact z.2⟩]
    exact h1
/-- (a, b, ..) = a tuple or a list of that length -/
def gSeq (K : PySem.W.Frag) (n : Nat) (t : TGs) : TG := fun v σ H Q => ∃ a xs, v = .ref a ∧ (SqT K H a xs ∨ SqL K H a xs) ∧ xs.length = n ∧ t xs σ H Q
theorem pg_seq {X : Cx} {es : List Expr} {k : Nat} {pos : Pos} {t : TGs} {n : Nat} (hc : X.calm = true) (h : PGs X es t) (hn : (assignEach es X.env).length = n) (hst : (assignEach es X.env).findIdx? (·.1) = none) : PG X (.Tuple es k pos) (gSeq X.K n t) := by
  refine ⟨fun pins s σ H v u Q I r hw => ?_⟩
  obtain ⟨a, xs, rfl, hq, hl, hw⟩ := hw
  cases r
  rcases hq with hq | hq
  · obtain ⟨its, rv, ht, hz⟩ := I.tuple hq
    refine assign_Tuple_tuple (I.ok.hd hc) ht (by simp [hn, ← hl, rv.length]) hst fun h' hx => ?_
    have J : Inv X pins σ H { s with heap := h' } := I.kept (t' := s.toks) fun b o e => hx b o (Nat.ne_of_lt (Heap.lt_size e)) e
    exact h.run pins _ σ H xs _ Q J (by simpa using rv) hw
  · obtain ⟨its, rv, p, hz⟩ := I.list hq
    have hsz : (assignEach es X.env).length = its.toArray.size := by simp [hn, ← hl, rv.length]
    rw [assign_Tuple]
    refine wpAny_bind (wpAny_standAt ?_)
    unfold unpack
    rw [hsz, hst]
    refine wpAny_bind (wpAny_holding (PySem.W.kun_itemsOf (I.ok.hd hc) p.isList fun h' hx => ?_))
    have J : Inv X pins σ H { s with heap := h' } := I.kept (t' := s.toks) fun b o e => hx b o (Nat.ne_of_lt (Heap.lt_size e)) e
    exact h.run pins _ σ H xs _ Q J (by simpa using rv) hw
mutual
/-- what a target asks -/
def gT (K : PySem.W.Frag) : Tg → TG
  | .nm i => gName i
  | .tup ts => gSeq K ts.length (gTs K ts)
def gTs (K : PySem.W.Frag) : List Tg → TGs
  | [] => gNil
  | t :: ts => gCons (gT K t) (gTs K ts)
end
mutual
theorem asgV_ok : ∀ (t : Tg) {d : D} {v : V} {s : L2.St} {e e' : Env} {Q : L2.St → Hp → Prop}, Sta T ad b H mu nu s e S → Rep T ad H mu nu v d → asgV t d e S = some e' → (∀ s', Sta T ad b H mu nu s' e' S → Q s' H) → gT K t v s H Q
  | .nm i, d, v, s, e, e', Q, st, r, h, q => by
    rw [asgV] at h
    split at h
    · cases h
      exact q _ (st.setv r)
    · cases h
  | .tup ts, d, v, s, e, e', Q, st, r, h, q => by
    rw [asgV] at h
    split at h
    · rename_i xs hl
      obtain ⟨a, vs, rfl, _, ht, rl⟩ := look_tup st (.of r) hl
      have rl' : RepL T ad H mu nu vs xs := by
        cases d with
        | tup ys => cases hl; cases r with | tup n ht2 rl2 =>
            obtain ⟨o1, _, h1⟩ := ht
            obtain ⟨o2, _, h2⟩ := ht2
            rw [h1] at h2
            cases h2
            exact rl2
        | ref n =>
          cases r with
          | ref hn => cases st.cel n a _ hn hl
        | _ => cases hl
      have hlen : vs.length = ts.length := by
        rw [rl'.length]
        exact asgL_len ts xs h
      exact ⟨a, vs, rfl, .inl ht.sq, hlen, asgL_ok ts st rl' h q⟩
    · rename_i o xs hl
      have key : ∃ a vs, v = .ref a ∧ Rd H a (.lst vs) ∧ RepL T ad H mu nu vs xs := by
        cases d with
        | lst o2 ys => cases hl; cases r with | lst n hr rl => exact ⟨_, _, rfl, hr, rl⟩
        | ref n =>
          cases r with
          | ref hn => cases st.cel n _ _ hn hl with | lst q rl => exact ⟨_, _, rfl, .inl q, rl⟩
        | _ => cases hl
      obtain ⟨a, vs, rfl, hr, rl⟩ := key
      have hlen : vs.length = ts.length := by
        rw [rl.length]
        exact asgL_len ts xs h
      exact ⟨a, vs, rfl, .inr (.inl hr), hlen, asgL_ok ts st rl h q⟩
    · cases h
theorem asgL_ok : ∀ (ts : List Tg) {ds : List D} {vs : List V} {s : L2.St} {e e' : Env} {Q : L2.St → Hp → Prop}, Sta T ad b H mu nu s e S → RepL T ad H mu nu vs ds → asgL ts ds e S = some e' → (∀ s', Sta T ad b H mu nu s' e' S → Q s' H) → gTs K ts vs s H Q
  | [], ds, vs, s, e, e', Q, st, r, h, q => by
    cases r with
    | nil =>
      rw [asgL] at h
      cases h
      exact ⟨rfl, q _ st⟩
    | cons _ _ => simp [asgL] at h
  | t :: ts, ds, vs, s, e, e', Q, st, r, h, q => by
    cases r with
    | nil => simp [asgL] at h
    | @cons v d vs ds r1 r2 =>
      rw [asgL] at h
      cases h1 : asgV t d e S with
      | none => rw [h1] at h; cases h
      | some e1 =>
        rw [h1] at h
        exact ⟨v, vs, rfl, asgV_ok t st r1 h1 fun s1 st1 => asgL_ok ts st1 r2 h q⟩
theorem asgL_len : ∀ (ts : List Tg) (ds : List D) {e e' : Env}, asgL ts ds e S = some e' → ds.length = ts.length
  | [], [], _, _, _ => rfl
  | [], _ :: _, _, _, h => by simp [asgL] at h
  | _ :: _, [], _, _, h => by simp [asgL] at h
  | t :: ts, d :: ds, e, e', h => by
    rw [asgL] at h
    cases h1 : asgV t d e S with
    | none => rw [h1] at h; cases h
    | some e1 =>
      rw [h1] at h
      rw [List.length_cons, List.length_cons, asgL_len ts ds h]
end
theorem asg_ok {t : Tg} {x : E} : ∀ D' s H, tX T ad b W (exec T C b (.asg t x)) D' s H → tAsg (tE T ad b W (ev T C b x)) (gT K t) D' s H := fun D' s H h => by
  obtain ⟨mu, nu, e, S, st, p⟩ := h
  rw [exec] at p
  refine tE_bindS st p fun v d S1 H1 mu1 nu1 fp x1 st1 ro ow fr p1 => ?_
  obtain ⟨x2, st2, r2⟩ := land1 x1 st st1 ro fr
  cases ha : asgV t (frz d) e S1 with
  | none => rw [ha] at p1; exact p1.elim
  | some e' =>
    rw [ha] at p1
    exact asgV_ok t st2 r2 ha fun s' st' => p1 s' H1 mu1 _ x2 st'
theorem expr_ok {x : E} : ∀ D' s H, tX T ad b W (exec T C b (.expr x)) D' s H → tDrop (tE T ad b W (ev T C b x)) D' s H := fun D' s H h => by
  obtain ⟨mu, nu, e, S, st, p⟩ := h
  rw [exec] at p
  exact tE_bindS st p fun v d S1 H1 mu1 nu1 fp x1 st1 ro ow fr p1 => p1 s H1 mu1 nu1 x1 st1
theorem ret_ok {x : E} : ∀ D' s H, tX T ad b W (exec T C b (.ret (some x))) D' s H → tRet (tE T ad b W (ev T C b x)) D' s H := fun D' s H h => by
  obtain ⟨mu, nu, e, S, st, p⟩ := h
  rw [exec] at p
  exact tE_bindS st p fun v d S1 H1 mu1 nu1 fp x1 st1 ro ow fr p1 => p1 v s e H1 mu1 nu1 fp x1 st1 ro ow fr
theorem retN_ok : ∀ D' s H, tX T ad b W (exec T C b (.ret none)) D' s H → tRetN D' s H := fun D' s H h => by
  obtain ⟨mu, nu, e, S, st, p⟩ := h
  rw [exec] at p
  exact p .non s e H mu nu [] .refl st (.of .non) .nil fun a m => absurd m List.not_mem_nil
theorem ite_okS {c : Q} {x y : List Dl.S} : ∀ D' s H, tX T ad b W (exec T C b (.ite c x y)) D' s H → tIfS (tQ T ad b W (evT T C b c)) (tX T ad b W (execs T C b x)) (tX T ad b W (execs T C b y)) D' s H := fun D' s H h => by
  obtain ⟨mu, nu, e, S, st, p⟩ := h
  rw [exec] at p
  refine tQ_bindS st p fun c S1 H1 mu1 nu1 x1 st1 p1 => ?_
  cases c with
  | true => exact ⟨mu1, nu1, e, S1, st1, p1.step x1⟩
  | false => exact ⟨mu1, nu1, e, S1, st1, p1.step x1⟩
theorem brk_ok : ∀ D' s H, tX T ad b W (exec T C b .brk) D' s H → tBreak D' s H := fun D' s H ⟨mu, nu, e, S, st, p⟩ => p s H mu nu .refl st
theorem cnt_ok : ∀ D' s H, tX T ad b W (exec T C b .cnt) D' s H → tCont D' s H := fun D' s H ⟨mu, nu, e, S, st, p⟩ => p s H mu nu .refl st
theorem pass_ok : ∀ D' s H, tX T ad b W (exec T C b .pass) D' s H → tNext D' s H := fun D' s H ⟨mu, nu, e, S, st, p⟩ => p s H mu nu .refl st
theorem snil_ok : ∀ D' s H, tX T ad b W (execs T C b []) D' s H → tNext D' s H := fun D' s H ⟨mu, nu, e, S, st, p⟩ => p s H mu nu .refl st
theorem scons_ok {x : Dl.S} {xs : List Dl.S} : ∀ D' s H, tX T ad b W (execs T C b (x :: xs)) D' s H → tSeq (tX T ad b W (exec T C b x)) (tX T ad b W (execs T C b xs)) D' s H := fun D' s H h => by
  obtain ⟨mu, nu, e, S, st, p⟩ := h
  rw [execs] at p
  refine ⟨mu, nu, e, S, st, ?_⟩
  cases hx : exec T C b x e S with
  | nx e1 S1 =>
    rw [hx] at p
    exact fun s1 H1 mu1 nu1 x1 st1 => ⟨mu1, nu1, e1, S1, st1, p.step x1⟩
  | rt d S1 => rw [hx] at p; exact p
  | bk e1 S1 => rw [hx] at p; exact p
  | ct e1 S1 => rw [hx] at p; exact p
  | ex c vs e1 S1 => rw [hx] at p; exact p
  | er => rw [hx] at p; exact p.elim
end
end Dl
end

section
set_option Elab.async false
set_option linter.all false
set_option maxRecDepth 100000
set_option maxHeartbeats 1000000
/-! D24: loops. -/
namespace Dl
open PySem PySem.Spec PyProof.Rows L2
section
variable {X : Cx} {tg : Expr}
/-- a list or a tuple is walked -/
def iSeq (K : PySem.W.Frag) (tl : TE) : TI := fun σ H R => tl σ H fun x H1 => (∃ a, x = .ref a ∧ (∃ xs, SqL K H1 a xs) ∧ R (Itl K a) H1) ∨ ∃ a, x = .ref a ∧ (∃ xs, SqT K H1 a xs) ∧ R (Itt K a) H1
theorem pi_seq {l : Expr} {tl : TE} (hl : PE X l tl) : PI X tg l (iSeq X.K tl) := by
  refine ⟨fun pins s σ H R I h => ?_⟩
  refine thn (hl.run pins s σ H _ I h) fun v s1 ⟨x, H1, I1, r1, q1⟩ => ?_
  have fp : ∀ b ∈ [s1.heap.objs.size], FpOk X pins H1 b := fun b hb => by
    rw [List.mem_singleton.mp hb]
    exact I1.fpOk (Nat.le_refl _) (I1.hok.fresh (Nat.le_refl _))
  rcases q1 with ⟨a, rfl, ⟨xs, hq⟩, q⟩ | ⟨a, rfl, ⟨xs, hq⟩, q⟩
  · cases r1
    obtain ⟨its, rv, p, hz⟩ := I1.list hq
    exact wpAny_pyIter_list p.isList ⟨s1.heap.objs.size, [s1.heap.objs.size], _, _, H1, rfl, I1.kept (t' := s1.toks) fun b o e => Heap.get?_push_of_some _ e, turn_list a _, ⟨_, Heap.get?_push_size _ rfl, rfl, rfl⟩, fp, q⟩
  · cases r1
    obtain ⟨its, rv, p, hz⟩ := I1.tuple hq
    exact wpAny_pyIter_tuple (show s1.heap.IsTuple a its.toArray from p) ⟨s1.heap.objs.size, [s1.heap.objs.size], _, _, H1, rfl, I1.kept (t' := s1.toks) fun b o e => Heap.get?_push_of_some _ e, turn_tuple a _, ⟨_, Heap.get?_push_size _ rfl, rfl, rfl⟩, fp, q⟩
end
section
variable {T : Pg} {ad : Ad} {b : List Nat} {W : WX} {X : Cx} {K : PySem.W.Frag} {C : List Nat → Nat → List D → Sto → R D}
variable {s : L2.St} {e : Env} {S : Sto} {H : Hp} {mu : List Addr} {nu : Addr → Prop}
/-- what is walked, as it lies: the iterator that HandS knows -/
inductive SrcAt (T : Pg) (ad : Ad) (K : PySem.W.Frag) (H : Hp) (mu : List Addr) (nu : Addr → Prop) : Src → L2.It → Prop
  | lst {a : Addr} {vs : List V} {xs : List D} : ¬ nu a → Rd H a (.lst vs) → RepL T ad H mu nu vs xs → SrcAt T ad K H mu nu (.its xs) (Itl K a)
  | tup {a : Addr} {vs : List V} {xs : List D} : ¬ nu a → TpH H a vs → RepL T ad H mu nu vs xs → SrcAt T ad K H mu nu (.its xs) (Itt K a)
  | rng {lo hi : Int} : SrcAt T ad K H mu nu (.its (rngL lo hi)) (Itr lo (hi - lo).toNat)
  | cell {n : Nat} {a : Addr} {len : Nat} : mu[n]? = some a → SrcAt T ad K H mu nu (.cell n len) (Itl K a)
theorem SrcAt.keeps {H' : Hp} {mu' : List Addr} {nu' : Addr → Prop} {src : Src} {J : L2.It} (k : Kp H mu nu H' mu' nu') (h : SrcAt T ad K H mu nu src J) : SrcAt T ad K H' mu' nu' src J := by
  cases h with
  | lst n h r => exact .lst (k.rd n h).2 (k.rd n h).1 (r.keeps k)
  | tup n h r => exact .tup (k.tp n h).2 (k.tp n h).1 (r.keeps k)
  | rng => exact .rng
  | cell h => exact .cell (k.ref _ _ h)
theorem rngL_len (lo hi : Int) : (rngL lo hi).length = (hi - lo).toNat := by unfold rngL; rw [List.length_map, List.length_range]
theorem rngL_get {lo hi : Int} {i : Nat} (h : i < (hi - lo).toNat) : (rngL lo hi)[i]? = some (.int (lo + (i : Nat))) := by
  unfold rngL
  rw [List.getElem?_map, List.getElem?_range h]
  rfl
/-- the item of the turn i -/
def itemAt (src : Src) (S : Sto) (i : Nat) : Option (Option D) :=
  match src with
  | .its xs => some xs[i]?
  | .cell n len => match cellAt S n len with
    | some xs => some xs[i]?
    | none => none
theorem Sta.cellList {n : Nat} {a : Addr} {len : Nat} {xs : List D} (st : Sta T ad b H mu nu s e S) (h : mu[n]? = some a) (hc : cellAt S n len = some xs) : ∃ vs, H a = some (.lst vs) ∧ RepL T ad H mu nu vs xs ∧ xs.length = len := by
  unfold cellAt at hc
  split at hc
  · rename_i o ys hS
    split at hc
    · rename_i hl
      cases hc
      cases st.cel n a _ h hS with
      | lst q r => exact ⟨_, q, r, hl⟩
    · cases hc
  · cases hc
/-- the sequence that HandS' iterator knows: there is an item, or an end -/
theorem src_item {src : Src} {J : L2.It} {i : Nat} {d : D} (st : Sta T ad b H mu nu s e S) (h : SrcAt T ad K H mu nu src J) (hi : itemAt src S i = some (some d)) : J.go i H ∧ ∀ x H', J.yld i H x H' → H' = H ∧ Rep T ad H mu nu x d := by
  cases h with
  | @lst a vs xs n hr r =>
    obtain ⟨v, hv, rv⟩ := r.get (Option.some.inj hi)
    refine ⟨⟨vs, v, .inl hr, hv⟩, fun x H' hy => ⟨hy.1, ?_⟩⟩
    have := hy.2 vs (.inl hr)
    rw [hv] at this
    cases this
    exact rv
  | @tup a vs xs n hr r =>
    obtain ⟨v, hv, rv⟩ := r.get (Option.some.inj hi)
    refine ⟨⟨vs, v, hr.sq, hv⟩, fun x H' hy => ⟨hy.1, ?_⟩⟩
    have := hy.2 vs hr.sq
    rw [hv] at this
    cases this
    exact rv
  | @rng lo hi' =>
    have h0 : (rngL lo hi')[i]? = some d := Option.some.inj hi
    have hlt : i < (hi' - lo).toNat := by
      have := (List.getElem?_eq_some_iff.mp h0).1
      rw [rngL_len] at this
      exact this
    rw [rngL_get hlt] at h0
    cases h0
    exact ⟨hlt, fun x H' hy => ⟨hy.1, by rw [hy.2]; exact .int _⟩⟩
  | @cell n a len hn =>
    unfold itemAt at hi
    dsimp only at hi
    split at hi
    · rename_i xs hc
      obtain ⟨vs, hr, r, hl⟩ := st.cellList hn hc
      obtain ⟨v, hv, rv⟩ := r.get (Option.some.inj hi)
      refine ⟨⟨vs, v, .inl (.inl hr), hv⟩, fun x H' hy => ⟨hy.1, ?_⟩⟩
      have := hy.2 vs (.inl (.inl hr))
      rw [hv] at this
      cases this
      exact rv
    · cases hi
theorem src_stop {src : Src} {J : L2.It} {i : Nat} (st : Sta T ad b H mu nu s e S) (h : SrcAt T ad K H mu nu src J) (hi : itemAt src S i = some none) : J.stop i H := by
  cases h with
  | @lst a vs xs n hr r =>
    have h0 : xs[i]? = none := Option.some.inj hi
    exact ⟨vs, .inl hr, by rw [r.length]; exact List.getElem?_eq_none_iff.mp h0⟩
  | @tup a vs xs n hr r =>
    have h0 : xs[i]? = none := Option.some.inj hi
    exact ⟨vs, hr.sq, by rw [r.length]; exact List.getElem?_eq_none_iff.mp h0⟩
  | @rng lo hi' =>
    have h0 : (rngL lo hi')[i]? = none := Option.some.inj hi
    have := List.getElem?_eq_none_iff.mp h0
    rw [rngL_len] at this
    exact this
  | @cell n a len hn =>
    unfold itemAt at hi
    dsimp only at hi
    split at hi
    · rename_i xs hc
      obtain ⟨vs, hr, r, hl⟩ := st.cellList hn hc
      have h0 : xs[i]? = none := Option.some.inj hi
      exact ⟨vs, .inl (.inl hr), by rw [r.length]; exact List.getElem?_eq_none_iff.mp h0⟩
    · cases hi
/-- a loop from its turn i -/
def forAt (f : D → Env → Sto → RS) (src : Src) (i : Nat) (e : Env) (S : Sto) : RS :=
  match src with
  | .its xs => forL f (xs.drop i) e S
  | .cell n len => forC f n len (len - i) e S
def lenOf : Src → Nat
  | .its xs => xs.length
  | .cell _ len => len
/-- behind a turn -/
def nextR (k : Env → Sto → RS) : RS → RS
  | .nx e S => k e S
  | .ct e S => k e S
  | .bk e S => .nx e S
  | r => r
theorem forAt_turn {f : D → Env → Sto → RS} {src : Src} {i : Nat} {e : Env} {S : Sto} (hl : i ≤ lenOf src) : (∃ d, i < lenOf src ∧ itemAt src S i = some (some d) ∧ forAt f src i e S = nextR (fun e S => forAt f src (i + 1) e S) (f d e S)) ∨
    (i = lenOf src ∧ itemAt src S i = some none ∧ forAt f src i e S = .nx e S) ∨ forAt f src i e S = .er := by
  cases src with
  | its xs =>
    have hl' : i ≤ xs.length := hl
    by_cases h : i < xs.length
    · refine .inl ⟨xs[i], h, by show some xs[i]? = _; rw [List.getElem?_eq_getElem h], ?_⟩
      show forL f (xs.drop i) e S = _
      rw [List.drop_eq_getElem_cons h, forL]
      cases f xs[i] e S <;> rfl
    · have hi : i = xs.length := by omega
      subst hi
      refine .inr (.inl ⟨rfl, by show some xs[xs.length]? = _; rw [List.getElem?_eq_none (Nat.le_refl _)], ?_⟩)
      show forL f (xs.drop xs.length) e S = _
      rw [List.drop_length]
      rfl
  | cell n len =>
    have hl' : i ≤ len := hl
    cases hc : cellAt S n len with
    | none =>
      refine .inr (.inr ?_)
      show forC f n len (len - i) e S = .er
      cases len - i with
      | zero => rw [forC, hc]
      | succ r => rw [forC, hc]
    | some xs =>
      by_cases h : i < len
      · have hr : len - i = (len - (i + 1)) + 1 := by omega
        have hi : len - ((len - (i + 1)) + 1) = i := by omega
        cases hx : xs[i]? with
        | none =>
          refine .inr (.inr ?_)
          show forC f n len (len - i) e S = .er
          rw [hr, forC, hc]
          dsimp only
          rw [hi, hx]
        | some d =>
          refine .inl ⟨d, h, by show itemAt (.cell n len) S i = _; unfold itemAt; dsimp only; rw [hc]; dsimp only; rw [hx], ?_⟩
          show forC f n len (len - i) e S = _
          rw [hr, forC, hc]
          dsimp only
          rw [hi, hx]
          dsimp only
          cases f d e S <;> rfl
      · have hi : i = len := by omega
        subst hi
        have hxl : xs.length = i := by
          unfold cellAt at hc
          split at hc
          · split at hc
            · rename_i hh; cases hc; exact hh
            · cases hc
          · cases hc
        refine .inr (.inl ⟨rfl, by show itemAt (.cell n i) S i = _; unfold itemAt; dsimp only; rw [hc]; dsimp only; rw [List.getElem?_eq_none (by omega)], ?_⟩)
        show forC f n i (i - i) e S = _
        rw [Nat.sub_self, forC, hc]
/-- the loop's rule over a source -/
theorem loop_ok {src : Src} {J : L2.It} {t : Tg} {body : Env → Sto → RS} {D' : Ends} (st : Sta T ad b H mu nu s e S) (hs : SrcAt T ad K H mu nu src J)
    (p : Sst T ad b W (forAt (fun x σ S => (match asgV t x σ S with | some σ => body σ S | none => .er)) src 0 e S) H mu nu D') :
    ∃ Wv : Nat → Nat → L2.St → Hp → Prop, (∃ m, Wv 0 m s H) ∧ ∀ i m s H, Wv i m s H →
      (J.stop i H ∧ D'.nx s H) ∨ (J.go i H ∧ ∃ N : L2.St → Hp → Prop, (∀ s' H', N s' H' → ∃ m', m' < m ∧ Wv (i + 1) m' s' H') ∧ ∀ x H', J.yld i H x H' → gT K t x s H' fun s2 H2 => tX T ad b W body { D' with nx := N, ct := N, bk := D'.nx } s2 H2) := by
  let Pv : Nat → L2.St → Hp → Prop := fun i s H => i ≤ lenOf src ∧ ∃ mu nu e S, Sta T ad b H mu nu s e S ∧ SrcAt T ad K H mu nu src J ∧ Sst T ad b W (forAt (fun x σ S => (match asgV t x σ S with | some σ => body σ S | none => .er)) src i e S) H mu nu D'
  refine ⟨fun i m s H => m = lenOf src - i ∧ Pv i s H, ⟨_, rfl, Nat.zero_le _, mu, nu, e, S, st, hs, p⟩, ?_⟩
  rintro i m s H ⟨rfl, hi, mu, nu, e, S, st, hs, p⟩
  rcases forAt_turn (f := fun x σ S => (match asgV t x σ S with | some σ => body σ S | none => .er)) (e := e) (S := S) hi with ⟨d, hlt, hit, heq⟩ | ⟨hlen, hit, heq⟩ | heq
  · obtain ⟨h1, h2⟩ := src_item st hs hit
    refine .inr ⟨h1, Pv (i + 1), fun s' H' q => ⟨lenOf src - (i + 1), by omega, rfl, q⟩, fun x H' hy => ?_⟩
    obtain ⟨rfl, rx⟩ := h2 x H' hy
    rw [heq] at p
    cases ha : asgV t d e S with
    | none => rw [ha] at p; exact p.elim
    | some e1 =>
      rw [ha] at p
      refine asgV_ok t st rx ha fun s1 st1 => ⟨mu, nu, e1, S, st1, ?_⟩
      dsimp only at p
      have go : ∀ {e2 : Env} {S2 : Sto}, Sst T ad b W (forAt (fun x σ S => (match asgV t x σ S with | some σ => body σ S | none => .er)) src (i + 1) e2 S2) H' mu nu D' → ∀ s2 H2 mu2 nu2, Stp H' mu nu H2 mu2 nu2 → Sta T ad b H2 mu2 nu2 s2 e2 S2 → Pv (i + 1) s2 H2 :=
        fun {e2 S2} q s2 H2 mu2 nu2 x2 st2 => ⟨hlt, mu2, nu2, e2, S2, st2, hs.keeps (x2.keeps st.sub), q.step x2⟩
      cases hb : body e1 S with
      | nx e2 S2 => rw [hb] at p; exact go p
      | ct e2 S2 => rw [hb] at p; exact go p
      | bk e2 S2 => rw [hb] at p; exact p
      | rt d S2 => rw [hb] at p; exact p
      | ex c vs e2 S2 => rw [hb] at p; exact p
      | er => rw [hb] at p; exact p.elim
  · rw [heq] at p
    exact .inl ⟨src_stop st hs hit, p s H mu nu .refl st⟩
  · rw [heq] at p
    exact p.elim
theorem forR_at {f : D → Env → Sto → RS} {src : Src} {e : Env} {S : Sto} : forR f src e S = forAt f src 0 e S := by
  cases src with
  | its xs => rfl
  | cell n len => rfl
end
end Dl
end

section
set_option Elab.async false
set_option linter.all false
set_option maxRecDepth 100000
set_option maxHeartbeats 1000000
/-! D25: for, while. -/
namespace Dl
open PySem PySem.Spec PyProof.Rows L2
section
variable {T : Pg} {ad : Ad} {b : List Nat} {W : WX} {X : Cx} {K : PySem.W.Frag} {C : List Nat → Nat → List D → Sto → R D}
variable {s : L2.St} {e : Env} {S : Sto} {H : Hp} {mu : List Addr} {nu : Addr → Prop}
theorem RS.of_bind {α β : Type} (r : R α) (g : α → Sto → R β) (e : Env) (f : β → Sto → RS) : RS.of (r.bind g) e f = RS.of r e fun a S => RS.of (g a S) e f := by
  cases r <;> rfl
theorem src_ok {v : V} {d : D} {src : Src} {S2 : Sto} (st : Sta T ad b H mu nu s e S) (r : Rep T ad H mu nu v (frz d)) (h : itF d S = .ok src S2) :
    S2 = S ∧ ∃ (J : L2.It) (a : Addr), v = .ref a ∧ SrcAt T ad K H mu nu src J ∧ ((J = Itl K a ∧ ∃ xs, SqL K H a xs) ∨ (J = Itt K a ∧ ∃ xs, SqT K H a xs)) := by
  unfold itF at h
  split at h
  · cases h
    rw [frz] at r
    cases r with
    | @lst a vs _ n hr rl => exact ⟨rfl, _, a, rfl, .lst n hr rl, .inl ⟨rfl, vs, .inl hr⟩⟩
  · cases h
    rw [frz] at r
    cases r with
    | @tup a vs _ n hr rl => exact ⟨rfl, _, a, rfl, .tup n hr rl, .inr ⟨rfl, vs, hr.sq⟩⟩
  · split at h
    · rename_i o xs hS
      cases h
      rw [frz] at r
      cases r with
      | @ref a n hn =>
        cases st.cel _ a _ hn hS with
        | @lst vs _ q rl => exact ⟨rfl, _, a, rfl, .cell hn, .inl ⟨rfl, vs, .inl (.inl q)⟩⟩
    · cases h
  · cases h
theorem itF_ex {d : D} {S : Sto} {c : Nat} {vs : List D} {S2 : Sto} : itF d S ≠ .ex c vs S2 := by
  unfold itF
  split <;> first | (intro h; cases h; done) | skip
  split <;> (intro h; cases h)
theorem for_ok {t : Tg} {a : E} {body : List Dl.S} : ∀ D' s H, tX T ad b W (exec T C b (.for_ t (.e a) body)) D' s H → tFor (iSeq K (tE T ad b W (ev T C b a))) (gT K t) (tX T ad b W (execs T C b body)) D' s H := fun D' s H h => by
  obtain ⟨mu, nu, e, S, st, p⟩ := h
  rw [exec, evI, RS.of_bind] at p
  refine tE_bindS st p fun v d S1 H1 mu1 nu1 fp x1 st1 ro ow fr p1 => ?_
  obtain ⟨x2, st2, r2⟩ := land1 x1 st st1 ro fr
  cases hi : itF d S1 with
  | er => rw [hi] at p1; exact p1.elim
  | ex c vs S2 => exact absurd hi itF_ex
  | ok src S2 =>
    rw [hi] at p1
    obtain ⟨rfl, J, a, rfl, hs, hj⟩ := src_ok (K := K) st2 r2 hi
    have p2 : Sst T ad b W (forR (fun x σ S => (match asgV t x σ S with | some σ => execs T C b body σ S | none => .er)) src e S2) H mu nu D' := p1
    rw [forR_at] at p2
    have q := loop_ok (K := K) st2 hs (p2.step x2)
    rcases hj with ⟨rfl, hx⟩ | ⟨rfl, hx⟩
    · exact .inl ⟨a, rfl, hx, q⟩
    · exact .inr ⟨a, rfl, hx, q⟩
theorem small_iff {i : Int} (h : small i = true) : -(2 ^ 62) ≤ i ∧ i < 2 ^ 62 := of_decide_eq_true h
theorem tA_bindSE {r : Env → Sto → R (List D)} {f : List D → Sto → RS} {D' : Ends} {S : Sto} {K : List V → Hp → Prop} (st : Sta T ad b H mu nu s e S) (p : Sst T ad b W (RS.of (r e S) e f) H mu nu D')
    (k : ∀ vs ds S1 H1 mu1 nu1 fp, r e S = .ok ds S1 → Stp H mu nu H1 mu1 nu1 → Sta T ad b H1 mu1 nu1 s e S1 → RepOL T ad H1 mu1 nu1 vs ds fp → Own nu1 fp → (∀ a, a ∈ fp → H a = none) → Sst T ad b W (f ds S1) H mu nu D' → K vs H1) :
    tA T ad b W r s H K := by
  cases h : r e S with
  | ok d S1 =>
    refine ⟨mu, nu, e, S, st, ?_⟩
    rw [h] at p ⊢
    intro v H1 mu1 nu1 fp x st1 ro ow fr
    exact k v d S1 H1 mu1 nu1 fp h x st1 ro ow (fun a h => (fr a h).elim (fun z => absurd z List.not_mem_nil) id) p
  | ex c xs S1 =>
    refine ⟨mu, nu, e, S, st, ?_⟩
    rw [h] at p ⊢
    exact fun H' mu' nu' dx Vs x' st' rl nx hx => p s H' mu' nu' dx Vs x' st' rl nx hx
  | er =>
    rw [h] at p
    exact p.elim
def nost : E → Bool
  | .star _ => false
  | _ => true
theorem evs_cons {x : E} {es : List E} (h : nost x = true) (e : Env) (S : Sto) : evs T C b (x :: es) e S = (ev T C b x e S).bind fun x S => (evs T C b es e S).bind fun ys S => .ok (x :: ys) S := by
  cases x <;> first | rfl | cases h
theorem evs_len : ∀ {es : List E} {e : Env} {S : Sto} {ds : List D} {S1 : Sto}, es.all nost = true → evs T C b es e S = .ok ds S1 → ds.length = es.length
  | [], e, S, ds, S1, _, h => by
    rw [evs] at h
    cases h
    rfl
  | x :: es, e, S, ds, S1, hn, h => by
    rw [List.all_cons, Bool.and_eq_true] at hn
    rw [evs_cons hn.1] at h
    obtain ⟨d, S2, _, h⟩ := R.bind_inv h
    obtain ⟨ys, S3, h3, h⟩ := R.bind_inv h
    cases h
    rw [List.length_cons, List.length_cons, evs_len hn.2 h3]
theorem forr_ok {t : Tg} {es : List E} {body : List Dl.S} : ∀ D' s H, tX T ad b W (exec T C b (.for_ t (.rng es) body)) D' s H →
    tA T ad b W (evs T C b es) s H fun vs H1 => (∃ j : Int, vs = [.int j] ∧ (es.all nost = true → es.length = 1) ∧ -(2 ^ 62) ≤ j ∧ j < 2 ^ 62 ∧ ∃ Wv : Nat → Nat → L2.St → Hp → Prop, (∃ m, Wv 0 m s H1) ∧ ∀ i m s H, Wv i m s H →
        ((Itr 0 j.toNat).stop i H ∧ D'.nx s H) ∨ ((Itr 0 j.toNat).go i H ∧ ∃ N : L2.St → Hp → Prop, (∀ s' H', N s' H' → ∃ m', m' < m ∧ Wv (i + 1) m' s' H') ∧ ∀ x H', (Itr 0 j.toNat).yld i H x H' → gT K t x s H' fun s2 H2 => tX T ad b W (execs T C b body) { D' with nx := N, ct := N, bk := D'.nx } s2 H2)) ∨
      ∃ i j : Int, vs = [.int i, .int j] ∧ (es.all nost = true → es.length = 2) ∧ (-(2 ^ 62) ≤ i ∧ i < 2 ^ 62 ∧ -(2 ^ 62) ≤ j ∧ j < 2 ^ 62) ∧ ∃ Wv : Nat → Nat → L2.St → Hp → Prop, (∃ m, Wv 0 m s H1) ∧ ∀ k m s H, Wv k m s H →
        ((Itr i (j - i).toNat).stop k H ∧ D'.nx s H) ∨ ((Itr i (j - i).toNat).go k H ∧ ∃ N : L2.St → Hp → Prop, (∀ s' H', N s' H' → ∃ m', m' < m ∧ Wv (k + 1) m' s' H') ∧ ∀ x H', (Itr i (j - i).toNat).yld k H x H' → gT K t x s H' fun s2 H2 => tX T ad b W (execs T C b body) { D' with nx := N, ct := N, bk := D'.nx } s2 H2) := fun D' s H h => by
  obtain ⟨mu, nu, e, S, st, p⟩ := h
  rw [exec, evI, RS.of_bind] at p
  refine tA_bindSE st p fun vs ds S1 H1 mu1 nu1 fp he x1 st1 ro ow fr p1 => ?_
  obtain ⟨x2, st2, rl⟩ := land x1 st st1 ro fr
  unfold rngF at p1
  split at p1
  · rename_i j
    split at p1
    · rename_i hj
      obtain ⟨v, rfl, r⟩ := ro.one
      obtain ⟨h1, h2⟩ := small_iff hj
      have p2 : Sst T ad b W (forR (fun x σ S => (match asgV t x σ S with | some σ => execs T C b body σ S | none => .er)) (.its (rngL 0 j)) e S1) H mu nu D' := p1
      rw [forR_at] at p2
      have q := loop_ok (K := K) st2 (.rng (lo := 0) (hi := j)) (p2.step x2)
      rw [Int.sub_zero] at q
      refine .inl ⟨j, by rw [r.int.1], fun hn => ?_, h1, h2, q⟩
      have := evs_len hn he
      exact this.symm
    · exact p1.elim
  · rename_i i j
    split at p1
    · rename_i hj
      obtain ⟨v1, v2, f1, f2, rfl, rfl, r1, r2⟩ := ro.two
      rw [Bool.and_eq_true] at hj
      obtain ⟨h1, h2⟩ := small_iff hj.1
      obtain ⟨h3, h4⟩ := small_iff hj.2
      have p2 : Sst T ad b W (forR (fun x σ S => (match asgV t x σ S with | some σ => execs T C b body σ S | none => .er)) (.its (rngL i j)) e S1) H mu nu D' := p1
      rw [forR_at] at p2
      have q := loop_ok (K := K) st2 (.rng (lo := i) (hi := j)) (p2.step x2)
      refine .inr ⟨i, j, by rw [r1.int.1, r2.int.1], fun hn => ?_, ⟨h1, h2, h3, h4⟩, q⟩
      have := evs_len hn he
      exact this.symm
    · exact p1.elim
  · exact p1.elim
theorem forr1_ok {t : Tg} {x : E} {body : List Dl.S} (hx : nost x = true) : ∀ D' s H, tX T ad b W (exec T C b (.for_ t (.rng [x]) body)) D' s H → tFor (iRng1 (tA T ad b W (evs T C b [x]))) (gT K t) (tX T ad b W (execs T C b body)) D' s H := fun D' s H h => by
  obtain ⟨mu, nu, e, S, st, p⟩ := forr_ok (K := K) D' s H h
  refine ⟨mu, nu, e, S, st, ?_⟩
  have imp : ∀ {r : R (List D)} {Q1 Q2 : List V → Hp → Prop}, PstL T ad b W s e r H mu nu [] Q1 → (∀ vs H1, Q1 vs H1 → Q2 vs H1) → PstL T ad b W s e r H mu nu [] Q2 := by
    intro r Q1 Q2 q hq
    cases r with
    | ok d S => exact fun vs H' mu' nu' fp x' st ro ow fr => hq _ _ (q vs H' mu' nu' fp x' st ro ow fr)
    | ex c xs S => exact q
    | er => exact q
  refine imp p fun vs H1 q => ?_
  rcases q with ⟨j, rfl, _, h1, h2, q⟩ | ⟨i, j, _, hn, _⟩
  · exact ⟨j, rfl, h1, h2, q⟩
  · exact absurd (hn (by simp [hx])) (by simp)
theorem forr2_ok {t : Tg} {x y : E} {body : List Dl.S} (hx : nost x = true) (hy : nost y = true) : ∀ D' s H, tX T ad b W (exec T C b (.for_ t (.rng [x, y]) body)) D' s H → tFor (iRng2 (tA T ad b W (evs T C b [x, y]))) (gT K t) (tX T ad b W (execs T C b body)) D' s H := fun D' s H h => by
  obtain ⟨mu, nu, e, S, st, p⟩ := forr_ok (K := K) D' s H h
  refine ⟨mu, nu, e, S, st, ?_⟩
  have imp : ∀ {r : R (List D)} {Q1 Q2 : List V → Hp → Prop}, PstL T ad b W s e r H mu nu [] Q1 → (∀ vs H1, Q1 vs H1 → Q2 vs H1) → PstL T ad b W s e r H mu nu [] Q2 := by
    intro r Q1 Q2 q hq
    cases r with
    | ok d S => exact fun vs H' mu' nu' fp x' st ro ow fr => hq _ _ (q vs H' mu' nu' fp x' st ro ow fr)
    | ex c xs S => exact q
    | er => exact q
  refine imp p fun vs H1 q => ?_
  rcases q with ⟨j, _, hn, _⟩ | ⟨i, j, rfl, _, h1, q⟩
  · exact absurd (hn (by simp [hx, hy])) (by simp)
  · exact ⟨i, j, rfl, h1, q⟩
/-- while -/
theorem whl_ok {n : Nat} {c : Q} {body : List Dl.S} : ∀ D' s H, tX T ad b W (exec T C b (.whl n c body)) D' s H → tWhile (tQ T ad b W (evT T C b c)) (tX T ad b W (execs T C b body)) D' s H := fun D' s H h => by
  obtain ⟨mu, nu, e, S, st, p⟩ := h
  rw [exec] at p
  refine ⟨fun m s H => ∃ mu nu e S, Sta T ad b H mu nu s e S ∧ Sst T ad b W (whlF (evT T C b c) (execs T C b body) m e S) H mu nu D', ⟨n, mu, nu, e, S, st, p⟩, ?_⟩
  rintro m s H ⟨mu, nu, e, S, st, p⟩
  cases m with
  | zero => exact p.elim
  | succ m =>
    rw [whlF] at p
    refine tQ_bindS st p fun c1 S1 H1 mu1 nu1 x1 st1 p1 => ?_
    cases c1 with
    | false => exact p1 s H1 mu1 nu1 x1 st1
    | true =>
      rw [if_pos rfl]
      refine ⟨fun s H => ∃ mu nu e S, Sta T ad b H mu nu s e S ∧ Sst T ad b W (whlF (evT T C b c) (execs T C b body) m e S) H mu nu D', fun s' H' q => ⟨m, Nat.lt_succ_self _, q⟩, mu1, nu1, e, S1, st1, ?_⟩
      rw [if_pos rfl] at p1
      have p2 := p1.step x1
      cases hb : execs T C b body e S1 with
      | nx e2 S2 => rw [hb] at p2; exact fun s2 H2 mu2 nu2 x2 st2 => ⟨mu2, nu2, e2, S2, st2, p2.step x2⟩
      | ct e2 S2 => rw [hb] at p2; exact fun s2 H2 mu2 nu2 x2 st2 => ⟨mu2, nu2, e2, S2, st2, p2.step x2⟩
      | bk e2 S2 => rw [hb] at p2; exact p2
      | rt d S2 => rw [hb] at p2; exact p2
      | ex c vs e2 S2 => rw [hb] at p2; exact p2
      | er => rw [hb] at p2; exact p2.elim
end
end Dl
end

section
set_option Elab.async false
set_option linter.all false
set_option maxRecDepth 100000
set_option maxHeartbeats 1000000
/-! D26: a, b = x, y; o[i] = v; name += v. -/
namespace Dl
open PySem PySem.Spec PyProof.Rows L2
section
variable {T : Pg} {ad : Ad} {b : List Nat} {W : WX} {X : Cx} {K : PySem.W.Frag} {C : List Nat → Nat → List D → Sto → R D}
variable {s : L2.St} {e : Env} {S : Sto} {H : Hp} {mu : List Addr} {nu : Addr → Prop}
/-- two expressions, values kept, ahead of a statement's end -/
theorem two_okS {rx ry : Env → Sto → R D} {g : D → D → Sto → RS} {K2 : V → V → Hp → Prop} {D' : Ends} (st : Sta T ad b H mu nu s e S)
    (p : Sst T ad b W (RS.of (rx e S) e fun x S => RS.of (ry e S) e fun y S => g x y S) H mu nu D')
    (k : ∀ v1 d1 f1 v2 d2 f2 S2 H2 mu2 nu2, Stp H mu nu H2 mu2 nu2 → Sta T ad b H2 mu2 nu2 s e S2 → RepO T ad H2 mu2 nu2 v1 d1 f1 → RepO T ad H2 mu2 nu2 v2 d2 f2 → Own nu2 (f1 ++ f2) → (∀ a, a ∈ f1 ++ f2 → H a = none) → Sst T ad b W (g d1 d2 S2) H mu nu D' → K2 v1 v2 H2) :
    tE T ad b W rx s H fun v1 H1 => tE T ad b W ry s H1 fun v2 H2 => K2 v1 v2 H2 := by
  refine ⟨mu, nu, e, S, st, ?_⟩
  cases h1 : rx e S with
  | er => rw [h1] at p; exact p.elim
  | ex c xs S1 => rw [h1] at p; exact fun H' mu' nu' dx Vs x' st' rl nx hx => p s H' mu' nu' dx Vs x' st' rl nx hx
  | ok d1 S1 =>
    rw [h1] at p
    intro v1 H1 mu1 nu1 f1 x1 st1 ro1 ow1 fr1
    have fr1' : ∀ a, a ∈ f1 → H a = none := fun a m => (fr1 a m).elim (fun z => absurd z List.not_mem_nil) id
    refine ⟨mu1, nu1, e, S1, st1, ?_⟩
    have p1 : Sst T ad b W (RS.of (ry e S1) e fun y S => g d1 y S) H mu nu D' := p
    cases h2 : ry e S1 with
    | er => rw [h2] at p1; exact p1.elim
    | ex c xs S2 => rw [h2] at p1; exact fun H' mu' nu' dx Vs x' st' rl nx hx => p1 s H' mu' nu' dx Vs (x1.trans x') st' rl nx hx
    | ok d2 S2 =>
      rw [h2] at p1
      intro v2 H2 mu2 nu2 f2 x2 st2 ro2 ow2 fr2
      have fr2' : ∀ a, a ∈ f2 → H1 a = none := fun a m => (fr2 a m).elim (fun z => absurd z List.not_mem_nil) id
      refine k v1 d1 f1 v2 d2 f2 S2 H2 mu2 nu2 (x1.trans x2) st2 (ro1.keeps (x2.keepsO st1.sub)) ro2 (Own.app st1.sub x2 ow1 ow2 fr2' (own_trk st1 ow1)) (fun a m => ?_) p1
      rcases List.mem_append.mp m with m | m
      · exact fr1' a m
      · exact x1.free (fr2' a m)
theorem RepOL.pair {v1 v2 : V} {d1 d2 : D} {f1 f2 : List Addr} (r1 : RepO T ad H mu nu v1 d1 f1) (r2 : RepO T ad H mu nu v2 d2 f2) : RepOL T ad H mu nu [v1, v2] [d1, d2] (f1 ++ f2) := by
  have h := RepOL.cons r1 (.cons r2 .nil)
  rw [List.append_nil] at h
  exact h
theorem par_ok {i j : Nat} {x y : E} : ∀ D' s H, tX T ad b W (exec T C b (.par i j x y)) D' s H → tPar i j (tCons (tE T ad b W (ev T C b x)) (tCons (tE T ad b W (ev T C b y)) tNil)) D' s H := fun D' s H h => by
  obtain ⟨mu, nu, e, S, st, p⟩ := h
  rw [exec] at p
  refine two_okS (g := fun x y S => if i < e.length ∧ j < e.length then .nx ((e.set i (some (frz x))).set j (some (frz y))) S else .er) st p fun v1 d1 f1 v2 d2 f2 S2 H2 mu2 nu2 x2 st2 r1 r2 ow fr p2 => ?_
  split at p2
  · obtain ⟨x3, st3, rl⟩ := land x2 st st2 (RepOL.pair r1 r2) fr
    cases rl with
    | cons q1 rl =>
      cases rl with
      | cons q2 rl => exact ⟨v1, v2, rfl, p2 _ H2 mu2 _ x3 ((st3.setv q1).setv q2)⟩
  · exact p2.elim
/-- o[i] = v -/
theorem put_ok {o i x : E} : ∀ D' s H, tX T ad b W (exec T C b (.put o i x)) D' s H → tAsg (tE T ad b W (ev T C b x)) (gSub (tE T ad b W (ev T C b o)) (tE T ad b W (ev T C b i)) rSetL) D' s H := fun D' s H h => by
  obtain ⟨mu, nu, e, S, st, p⟩ := h
  rw [exec] at p
  refine tE_bindS st p fun v d S1 H1 mu1 nu1 fp x1 st1 ro ow fr p1 => ?_
  obtain ⟨x2, st2, r2⟩ := land1 x1 st st1 ro fr
  have p2 := p1.step x2
  refine two_okS (g := fun o i S => (match putF b o i (frz d) S with | some S => .nx e S | none => .er)) st2 p2 fun v1 d1 f1 v2 d2 f2 S3 H3 mu3 nu3 x3 st3 r3 r4 ow3 fr3 p3 => ?_
  have rv := r2.keeps (x3.keeps st2.sub)
  cases hp : putF b d1 d2 (frz d) S3 with
  | none => rw [hp] at p3; exact p3.elim
  | some S4 =>
    rw [hp] at p3
    unfold putF at hp
    split at hp
    · rename_i n k
      split at hp
      · rename_i oo xs hS
        split at hp
        · rename_i kk hk
          split at hp
          · rename_i hok
            cases hp
            obtain ⟨a, rfl, _, ha⟩ := r3.ref
            rw [r4.int.1]
            have na := st3.sub a (List.mem_of_getElem? ha)
            cases st3.cel n a _ ha hS with
            | @lst ws _ q rl =>
              obtain ⟨x5, st5⟩ := st3.chg ha (o' := .lst (ws.set kk v)) (c' := .lst true (xs.set kk (frz d))) (.lst upd_same (RepL.set kk (rv.keeps (chg_kp na)) (rl.keeps (chg_kp na)))) fun β hβ hb => by
                have h1 : noRL β xs = true := st3.old β hβ n _ hb hS
                show noRL β (xs.set kk (frz d)) = true
                rw [noRL_iff] at h1 ⊢
                intro y my
                rcases List.mem_or_eq_of_mem_set my with my | my
                · exact h1 y my
                · rw [my]; exact okB_at hok hβ hb
              exact ⟨a, ws, k, kk, rfl, rfl, q, by rw [rl.length]; exact hk, p3 s _ mu3 nu3 (x3.trans x5) st5⟩
          · cases hp
        · cases hp
      · cases hp
    · cases hp
theorem aug_add {i : Nat} {x : E} : ∀ D' s H, tX T ad b W (exec T C b (.aug i .Add x)) D' s H → tAug i (tE T ad b W (ev T C b x)) (ipI fun i j => i + j) D' s H := fun D' s H h => by
  obtain ⟨mu, nu, e, S, st, p⟩ := h
  rw [exec] at p
  split at p
  · rename_i k he
    obtain ⟨v, h1, r⟩ := st.env i _ he
    obtain ⟨r⟩ := r
    cases r
    refine ⟨_, h1, tE_bindS st p fun v d S1 H1 mu1 nu1 fp x1 st1 ro ow fr p1 => ?_⟩
    split at p1
    · rename_i j _
      exact ⟨k, j, rfl, ro.int.1, p1 _ H1 mu1 nu1 x1 (st1.setv (.int _))⟩
    · cases ‹Operator.Add = Operator.Sub›
    · exact p1.elim
  · exact p.elim
theorem aug_sub {i : Nat} {x : E} : ∀ D' s H, tX T ad b W (exec T C b (.aug i .Sub x)) D' s H → tAug i (tE T ad b W (ev T C b x)) (ipI fun i j => i - j) D' s H := fun D' s H h => by
  obtain ⟨mu, nu, e, S, st, p⟩ := h
  rw [exec] at p
  split at p
  · rename_i k he
    obtain ⟨v, h1, r⟩ := st.env i _ he
    obtain ⟨r⟩ := r
    cases r
    refine ⟨_, h1, tE_bindS st p fun v d S1 H1 mu1 nu1 fp x1 st1 ro ow fr p1 => ?_⟩
    split at p1
    · cases ‹Operator.Sub = Operator.Add›
    · rename_i j _
      exact ⟨k, j, rfl, ro.int.1, p1 _ H1 mu1 nu1 x1 (st1.setv (.int _))⟩
    · exact p1.elim
  · exact p.elim
end
end Dl
end

section
set_option Elab.async false
set_option linter.all false
set_option maxRecDepth 100000
set_option maxHeartbeats 1000000
/-! D27: comprehensions. -/
namespace Dl
open PySem PySem.Spec PyProof.Rows L2
section
variable {T : Pg} {ad : Ad} {b : List Nat} {W : WX} {X : Cx} {K : PySem.W.Frag} {C : List Nat → Nat → List D → Sto → R D}
variable {s : L2.St} {e : Env} {S : Sto} {H H' : Hp} {mu mu' : List Addr} {nu nu' : Addr → Prop}
/-- data in flight stand where its own objects stand -/
structure KpG (H : Hp) (mu : List Addr) (nu : Addr → Prop) (H' : Hp) (mu' : List Addr) (nu' : Addr → Prop) (fp : List Addr) : Prop extends Kp H mu nu H' mu' nu' where
  own : ∀ a, a ∈ fp → ∀ o, H a = some o → H' a = some o ∧ a ∉ mu'
mutual
theorem RepO.keepsG : ∀ {v : V} (d : D) {fp : List Addr}, KpG H mu nu H' mu' nu' fp → RepO T ad H mu nu v d fp → RepO T ad H' mu' nu' v d fp
  | _, .non, _, k, h => by cases h with | of r => exact .of (r.keeps k.toKp)
  | _, .bl _, _, k, h => by cases h with | of r => exact .of (r.keeps k.toKp)
  | _, .int _, _, k, h => by cases h with | of r => exact .of (r.keeps k.toKp)
  | _, .str _, _, k, h => by cases h with | of r => exact .of (r.keeps k.toKp)
  | _, .tup ds, _, k, h => by
    cases h with
    | of r => exact .of (r.keeps k.toKp)
    | tup n e r => exact .tup (k.toKp.tp n e).2 (k.toKp.tp n e).1 (RepOL.keepsG ds k r)
  | _, .lst o ds, _, k, h => by
    cases h with
    | of r => exact .of (r.keeps k.toKp)
    | lst n e r => exact .lst (k.own _ List.mem_cons_self _ e).2 (k.own _ List.mem_cons_self _ e).1 (RepOL.keepsG ds ⟨k.toKp, fun a m => k.own a (List.mem_cons_of_mem _ m)⟩ r)
  | _, .dic o ks ds, _, k, h => by
    cases h with
    | of r => exact .of (r.keeps k.toKp)
    | dic n e r => exact .dic (k.own _ List.mem_cons_self _ e).2 (k.own _ List.mem_cons_self _ e).1 (RepOL.keepsG ds ⟨k.toKp, fun a m => k.own a (List.mem_cons_of_mem _ m)⟩ r)
  | _, .set _ _, _, k, h => by cases h with | of r => exact .of (r.keeps k.toKp)
  | _, .ins o c ds, _, k, h => by
    cases h with
    | of r => exact .of (r.keeps k.toKp)
    | ins hI n e l r => exact .ins hI (k.own _ List.mem_cons_self _ e).2 (k.own _ List.mem_cons_self _ e).1 l (RepOL.keepsG ds ⟨k.toKp, fun a m => k.own a (List.mem_cons_of_mem _ m)⟩ r)
  | _, .ref _, _, k, h => by cases h with | of r => exact .of (r.keeps k.toKp)
  | _, .fn _, _, k, h => by cases h with | of r => exact .of (r.keeps k.toKp)
  | _, .cls _, _, k, h => by cases h with | of r => exact .of (r.keeps k.toKp)
  | _, .exc _ _, _, k, h => by cases h with | of r => exact .of (r.keeps k.toKp)
theorem RepOL.keepsG : ∀ {vs : List V} (ds : List D) {fp : List Addr}, KpG H mu nu H' mu' nu' fp → RepOL T ad H mu nu vs ds fp → RepOL T ad H' mu' nu' vs ds fp
  | _, [], _, k, h => by cases h; exact .nil
  | _, d :: ds, _, k, h => by
    cases h with
    | cons h1 h2 => exact .cons (RepO.keepsG d ⟨k.toKp, fun a m => k.own a (List.mem_append_left _ m)⟩ h1) (RepOL.keepsG ds ⟨k.toKp, fun a m => k.own a (List.mem_append_right _ m)⟩ h2)
end
/-- an object that is held alone is written -/
theorem Stp.writ {H0 : Hp} {mu0 : List Addr} {nu0 : Addr → Prop} {q : Addr} {o : HO} (x : Stp H0 mu0 nu0 H mu nu) (h0 : H0 q = none) : Stp H0 mu0 nu0 (upd H q o) mu nu where
  keep := fun a u ha n => let ⟨h1, h2, h3⟩ := x.keep a u ha n; ⟨by rw [upd_ne (ne_of_none ha h0)]; exact h1, h2, h3⟩
  pre := x.pre
  grow := x.grow
  trk := fun a u ha => let ⟨u', h⟩ := x.trk a u ha; ⟨u', by rw [upd_ne (ne_of_none ha h0)]; exact h⟩
  new := x.new
theorem writ_kp {q : Addr} {o : HO} (hn : nu q) : Kp H mu nu (upd H q o) mu nu := chg_kp hn
theorem Sta.writ {q : Addr} {o : HO} (st : Sta T ad b H mu nu s e S) (hn : nu q) (hm : q ∉ mu) : Sta T ad b (upd H q o) mu nu s e S :=
  st.move (writ_kp hn) (fun a m => upd_ne fun z => hm (z ▸ m)) st.sub fun a z => by
    by_cases w : a = q
    · subst w; exact ⟨_, upd_same⟩
    · obtain ⟨u, hu⟩ := st.trk a z
      exact ⟨u, by rw [upd_ne w]; exact hu⟩
theorem RepOL.writ {q : Addr} {o : HO} {vs : List V} {ds : List D} {fp : List Addr} (hn : nu q) (hq : q ∉ fp) (r : RepOL T ad H mu nu vs ds fp) : RepOL T ad (upd H q o) mu nu vs ds fp :=
  r.keepsG ds ⟨writ_kp hn, fun a m u hu => ⟨by rw [upd_ne fun (z : a = q) => hq (z ▸ m)]; exact hu, r.notmu ds a m⟩⟩
/-- names that go -/
theorem wipeE_len (e : Env) : ∀ vs : List Nat, (wipeE e vs).length = e.length
  | [] => rfl
  | v :: vs => by rw [wipeE, List.length_set, wipeE_len e vs]
theorem Sta.wipe (st : Sta T ad b H mu nu s e S) : ∀ vs : List Nat, Sta T ad b H mu nu (wipe s vs) (wipeE e vs) S
  | [] => st
  | v :: vs => (st.wipe vs).delv
mutual
/-- the names of a target -/
def tgs : Tg → List Nat
  | .nm i => [i]
  | .tup ts => tgsL ts
def tgsL : List Tg → List Nat
  | [] => []
  | t :: ts => tgs t ++ tgsL ts
end
theorem wipe_set {i : Nat} {v : Option V} : ∀ {vs : List Nat} {σ : L2.St}, i ∈ vs → wipe (σ.set i v) vs = wipe σ vs
  | w :: vs, σ, h => by
    show (wipe (σ.set i v) vs).set w none = (wipe σ vs).set w none
    by_cases hi : i ∈ vs
    · rw [wipe_set hi]
    · have e : i = w := (List.mem_cons.mp h).resolve_right hi
      subst e
      have key : ∀ {us : List Nat} {σ : L2.St}, i ∉ us → wipe (σ.set i v) us = (wipe σ us).set i v := by
        intro us
        induction us with
        | nil => intro σ _; rfl
        | cons u us ih =>
          intro σ hn
          show (wipe (σ.set i v) us).set u none = ((wipe σ us).set u none).set i v
          rw [ih fun m => hn (List.mem_cons_of_mem _ m), List.set_comm _ _ fun (z : i = u) => hn (z ▸ List.mem_cons_self)]
      rw [key hi, List.set_set]
theorem wipe_wipe {vs : List Nat} (σ : L2.St) : wipe (wipe σ vs) vs = wipe σ vs := by
  have key : ∀ {us : List Nat}, (∀ u, u ∈ us → u ∈ vs) → wipe (wipe σ us) vs = wipe σ vs := by
    intro us
    induction us with
    | nil => intro _; rfl
    | cons u us ih =>
      intro h
      show wipe ((wipe σ us).set u none) vs = wipe σ vs
      rw [wipe_set (h u List.mem_cons_self), ih fun w m => h w (List.mem_cons_of_mem _ m)]
  exact key fun _ m => m
mutual
theorem gT_own {vs : List Nat} : ∀ (t : Tg) {v : V} {s : L2.St} {H : Hp} {Q : L2.St → Hp → Prop}, (∀ i, i ∈ tgs t → i ∈ vs) → gT K t v s H Q → gT K t v s H fun s' H' => wipe s' vs = wipe s vs ∧ Q s' H'
  | .nm i, v, s, H, Q, h, q => ⟨wipe_set (h i (by simp [tgs])), q⟩
  | .tup ts, v, s, H, Q, h, q => by
    obtain ⟨a, xs, h1, h2, h3, q⟩ := q
    exact ⟨a, xs, h1, h2, h3, gTs_own ts (fun i m => h i (by rw [tgs]; exact m)) q⟩
theorem gTs_own {vs : List Nat} : ∀ (ts : List Tg) {ws : List V} {s : L2.St} {H : Hp} {Q : L2.St → Hp → Prop}, (∀ i, i ∈ tgsL ts → i ∈ vs) → gTs K ts ws s H Q → gTs K ts ws s H fun s' H' => wipe s' vs = wipe s vs ∧ Q s' H'
  | [], ws, s, H, Q, h, q => ⟨q.1, rfl, q.2⟩
  | t :: ts, ws, s, H, Q, h, q => by
    obtain ⟨v, r, h1, q⟩ := q
    refine ⟨v, r, h1, gT_mono t (gT_own t (fun i m => h i (by rw [tgsL]; exact List.mem_append_left _ m)) q) fun s1 H1 ⟨w1, q1⟩ => ?_⟩
    exact gTs_mono ts (gTs_own ts (fun i m => h i (by rw [tgsL]; exact List.mem_append_right _ m)) q1) fun s2 H2 ⟨w2, q2⟩ => ⟨w2.trans w1, q2⟩
theorem gT_mono : ∀ (t : Tg) {v : V} {s : L2.St} {H : Hp} {Q Q' : L2.St → Hp → Prop}, gT K t v s H Q → (∀ s H, Q s H → Q' s H) → gT K t v s H Q'
  | .nm i, v, s, H, Q, Q', q, h => h _ _ q
  | .tup ts, v, s, H, Q, Q', q, h => by
    obtain ⟨a, xs, h1, h2, h3, q⟩ := q
    exact ⟨a, xs, h1, h2, h3, gTs_mono ts q h⟩
theorem gTs_mono : ∀ (ts : List Tg) {ws : List V} {s : L2.St} {H : Hp} {Q Q' : L2.St → Hp → Prop}, gTs K ts ws s H Q → (∀ s H, Q s H → Q' s H) → gTs K ts ws s H Q'
  | [], ws, s, H, Q, Q', q, h => ⟨q.1, h _ _ q.2⟩
  | t :: ts, ws, s, H, Q, Q', q, h => by
    obtain ⟨v, r, h1, q⟩ := q
    exact ⟨v, r, h1, gT_mono t q fun s1 H1 q1 => gTs_mono ts q1 h⟩
end
end
end Dl
end

section
set_option Elab.async false
set_option linter.all false
set_option maxRecDepth 100000
set_option maxHeartbeats 1000000
/-! D28: a comprehension of one clause. -/
namespace Dl
open PySem PySem.Spec PyProof.Rows L2
section
variable {T : Pg} {ad : Ad} {b : List Nat} {W : WX} {X : Cx} {K : PySem.W.Frag} {C : List Nat → Nat → List D → Sto → R D}
variable {s : L2.St} {e : Env} {S : Sto} {H : Hp} {mu : List Addr} {nu : Addr → Prop}
/-- nothing is let out -/
def noX : WX := fun _ _ _ _ => False
theorem R.bind_inv2 {α β : Type} {r : R α} {f : α → Sto → R β} {d : β} {S : Sto} (h : r.bind f = .ok d S) : ∃ a S1, r = .ok a S1 ∧ f a S1 = .ok d S := R.bind_inv h
theorem R.noex_inv {α : Type} {r : R α} {a : α} {S : Sto} (h : R.noex r = .ok a S) : r = .ok a S := by
  cases r <;> first | exact h | cases h
theorem R.noex_ex {α : Type} {r : R α} {c : Nat} {vs : List D} {S : Sto} : R.noex r ≠ .ex c vs S := by
  cases r <;> (intro h; cases h)
/-- a loop of values from its turn i -/
def lcAt (f : D → Sto → R (List D)) (src : Src) (i : Nat) (S : Sto) : R (List D) :=
  match src with
  | .its xs => loopL f (xs.drop i) S
  | .cell n len => loopC f n len (len - i) S
theorem loopR_at {f : D → Sto → R (List D)} {src : Src} {S : Sto} : loopR f src S = lcAt f src 0 S := by
  cases src with
  | its xs => rfl
  | cell n len => rfl
theorem lcAt_turn {f : D → Sto → R (List D)} {src : Src} {i : Nat} {S : Sto} {zs : List D} {S2 : Sto} (hl : i ≤ lenOf src) (h : lcAt f src i S = .ok zs S2) :
    (∃ d ys S1 rs, i < lenOf src ∧ itemAt src S i = some (some d) ∧ f d S = .ok ys S1 ∧ lcAt f src (i + 1) S1 = .ok rs S2 ∧ zs = ys ++ rs) ∨ (i = lenOf src ∧ itemAt src S i = some none ∧ zs = [] ∧ S2 = S) := by
  cases src with
  | its xs =>
    have hl' : i ≤ xs.length := hl
    have h' : loopL f (xs.drop i) S = .ok zs S2 := h
    by_cases hlt : i < xs.length
    · rw [List.drop_eq_getElem_cons hlt, loopL] at h'
      obtain ⟨ys, S1, h1, h'⟩ := R.bind_inv h'
      obtain ⟨rs, S3, h2, h'⟩ := R.bind_inv h'
      cases h'
      exact .inl ⟨xs[i], ys, S1, rs, hlt, by show some xs[i]? = _; rw [List.getElem?_eq_getElem hlt], h1, h2, rfl⟩
    · have hi : i = xs.length := by omega
      subst hi
      rw [List.drop_length, loopL] at h'
      cases h'
      exact .inr ⟨rfl, by show some xs[xs.length]? = _; rw [List.getElem?_eq_none (Nat.le_refl _)], rfl, rfl⟩
  | cell n len =>
    have hl' : i ≤ len := hl
    have h' : loopC f n len (len - i) S = .ok zs S2 := h
    cases hc : cellAt S n len with
    | none =>
      exfalso
      cases hh : len - i with
      | zero => rw [hh, loopC, hc] at h'; cases h'
      | succ r => rw [hh, loopC, hc] at h'; cases h'
    | some xs =>
      by_cases hlt : i < len
      · have hr : len - i = (len - (i + 1)) + 1 := by omega
        have hi : len - ((len - (i + 1)) + 1) = i := by omega
        rw [hr, loopC, hc] at h'
        dsimp only at h'
        rw [hi] at h'
        cases hx : xs[i]? with
        | none => rw [hx] at h'; cases h'
        | some d =>
          rw [hx] at h'
          obtain ⟨ys, S1, h1, h'⟩ := R.bind_inv h'
          obtain ⟨rs, S3, h2, h'⟩ := R.bind_inv h'
          cases h'
          exact .inl ⟨d, ys, S1, rs, hlt, by show itemAt (.cell n len) S i = _; unfold itemAt; dsimp only; rw [hc]; dsimp only; rw [hx], h1, h2, rfl⟩
      · have hi : i = len := by omega
        subst hi
        have hxl : xs.length = i := by
          unfold cellAt at hc
          split at hc
          · split at hc
            · rename_i hh; cases hc; exact hh
            · cases hc
          · cases hc
        rw [Nat.sub_self, loopC, hc] at h'
        cases h'
        exact .inr ⟨rfl, by show itemAt (.cell n i) S i = _; unfold itemAt; dsimp only; rw [hc]; dsimp only; rw [List.getElem?_eq_none (by omega)], rfl, rfl⟩
theorem loopR_ex {f : D → Sto → R (List D)} (hf : ∀ d S c vs S2, f d S ≠ .ex c vs S2) {src : Src} {S : Sto} {c : Nat} {vs : List D} {S2 : Sto} : loopR f src S ≠ .ex c vs S2 := by
  have hL : ∀ xs S, loopL f xs S ≠ .ex c vs S2 := by
    intro xs
    induction xs with
    | nil => intro S h; cases h
    | cons x xs ih =>
      intro S h
      rw [loopL] at h
      cases h1 : f x S with
      | ex c' vs' S' => exact hf _ _ _ _ _ h1
      | er => rw [h1] at h; cases h
      | ok ys S1 =>
        rw [h1] at h
        have h' : ((loopL f xs S1).bind fun zs S => R.ok (ys ++ zs) S) = .ex c vs S2 := h
        cases h2 : loopL f xs S1 with
        | ex c' vs' S' => rw [h2] at h'; cases h'; exact ih _ h2
        | er => rw [h2] at h'; cases h'
        | ok zs S3 => rw [h2] at h'; cases h'
  have hC : ∀ n len r S, loopC f n len r S ≠ .ex c vs S2 := by
    intro n len r
    induction r with
    | zero => intro S h; rw [loopC] at h; split at h <;> cases h
    | succ r ih =>
      intro S h
      rw [loopC] at h
      split at h
      · split at h
        · rename_i x _
          cases h1 : f x S with
          | ex c' vs' S' => exact hf _ _ _ _ _ h1
          | er => rw [h1] at h; cases h
          | ok ys S1 =>
            rw [h1] at h
            have h' : ((loopC f n len r S1).bind fun zs S => R.ok (ys ++ zs) S) = .ex c vs S2 := h
            cases h2 : loopC f n len r S1 with
            | ex c' vs' S' => rw [h2] at h'; cases h'; exact ih _ h2
            | er => rw [h2] at h'; cases h'
            | ok zs S3 => rw [h2] at h'; cases h'
        · cases h
      · cases h
  cases src with
  | its xs => exact hL xs S
  | cell n len => exact hC n len len S
/-- the tests of a clause: none, or one -/
def tIfs (T : Pg) (ad : Ad) (b : List Nat) (C : List Nat → Nat → List D → Sto → R D) : List Q → TT
  | [] => tYes
  | q :: _ => tQ T ad b noX (evT T C b q)
theorem ifs_ok {ifs : List Q} (hl : ifs.length ≤ 1) {e : Env} {c : Bool} {S1 : Sto} {Kc : Bool → Hp → Prop} (st : Sta T ad b H mu nu s e S) (h : evC T C b ifs e S = .ok c S1) (k : ∀ H1 mu1 nu1, Stp H mu nu H1 mu1 nu1 → Sta T ad b H1 mu1 nu1 s e S1 → Kc c H1) : tIfs T ad b C ifs s H Kc := by
  cases ifs with
  | nil =>
    rw [evC] at h
    cases h
    exact k H mu nu .refl st
  | cons q qs =>
    cases qs with
    | cons _ _ => simp at hl
    | nil =>
      rw [evC] at h
      obtain ⟨c1, S3, h1, h⟩ := R.bind_inv h
      refine ⟨mu, nu, e, S, st, ?_⟩
      rw [h1]
      have : c = c1 ∧ S1 = S3 := by
        cases c1 with
        | true => rw [if_pos rfl, evC] at h; cases h; exact ⟨rfl, rfl⟩
        | false => rw [if_neg Bool.false_ne_true] at h; cases h; exact ⟨rfl, rfl⟩
      obtain ⟨rfl, rfl⟩ := this
      exact k
end
end Dl
end

section
set_option Elab.async false
set_option linter.all false
set_option maxRecDepth 100000
set_option maxHeartbeats 1000000
/-! D29: a comprehension of one clause, its loop. -/
namespace Dl
open PySem PySem.Spec PyProof.Rows L2
section
variable {T : Pg} {ad : Ad} {b : List Nat} {W : WX} {X : Cx} {K : PySem.W.Frag} {C : List Nat → Nat → List D → Sto → R D}
variable {s : L2.St} {e : Env} {S : Sto} {H : Hp} {mu : List Addr} {nu : Addr → Prop}
theorem Sta.bare (st : Sta T ad b H mu nu s e S) : Sta T ad b H mu nu [] [] S := ⟨rfl, fun i d h => by simp at h, st.num, st.cel, st.nd, st.sub, st.trk, st.old, st.bse⟩
/-- one turn's values -/
def lcF (T : Pg) (C : List Nat → Nat → List D → Sto → R D) (b : List Nat) (t : Tg) (ifs : List Q) (elt : E) (e0 : Env) : D → Sto → R (List D) := fun x S => R.noex (match asgV t x e0 S with
  | some σ => (evC T C b ifs σ S).bind fun c S => if c then evG T C b [] σ S fun σ S => (ev T C b elt σ S).bind fun d S => .ok [d] S else .ok [] S
  | none => .er)
theorem lcF_inv {t : Tg} {ifs : List Q} {elt : E} {e0 : Env} {d : D} {S : Sto} {ys : List D} {S1 : Sto} (h : lcF T C b t ifs elt e0 d S = .ok ys S1) :
    ∃ e1 c S3, asgV t d e0 S = some e1 ∧ evC T C b ifs e1 S = .ok c S3 ∧ ((c = true ∧ ∃ y, ev T C b elt e1 S3 = .ok y S1 ∧ ys = [y]) ∨ (c = false ∧ ys = [] ∧ S1 = S3)) := by
  have h' := R.noex_inv h
  cases ha : asgV t d e0 S with
  | none => rw [ha] at h'; cases h'
  | some e1 =>
    rw [ha] at h'
    obtain ⟨c, S3, h1, h2⟩ := R.bind_inv h'
    refine ⟨e1, c, S3, rfl, h1, ?_⟩
    cases c with
    | true =>
      rw [if_pos rfl, evG] at h2
      obtain ⟨y, S4, h3, h4⟩ := R.bind_inv h2
      cases h4
      exact .inl ⟨rfl, y, h3, rfl⟩
    | false =>
      rw [if_neg Bool.false_ne_true] at h2
      cases h2
      exact .inr ⟨rfl, rfl, rfl⟩
theorem lc_loop {src : Src} {J : L2.It} {t : Tg} {ifs : List Q} {elt : E} {own : List Nat} {xs : List D} {S2 : Sto} {P : VK} {f0 : List Addr} (hown : ∀ i, i ∈ tgs t → i ∈ own) (hifs : ifs.length ≤ 1) (st : Sta T ad b H mu nu s e S) (hs : SrcAt T ad K H mu nu src J)
    (hr : lcAt (lcF T C b t ifs elt (wipeE e own)) src 0 S = .ok xs S2) (hz : xs.length < sizeLine) (p : Pst T ad b W s e (.ok (.lst true xs) S2) H mu nu f0 P) :
    ∀ D, H D = none → ∃ Wv : Nat → Nat → Hp → Prop, (∃ m, Wv 0 m (upd H D (.lst []))) ∧ ∀ i m H', Wv i m H' →
      (J.stop i H' ∧ P (.ref D) H') ∨ (J.go i H' ∧ ∃ Nx : Hp → Prop, (∀ H'', Nx H'' → ∃ m', m' < m ∧ Wv (i + 1) m' H'') ∧ ∀ x H'', J.yld i H' x H'' → gT K t x (wipe s own) H'' fun σ2 H2 => wipe σ2 own = wipe s own ∧ tIfs T ad b C ifs σ2 H2 fun c H3 =>
        if c = true then tE T ad b noX (ev T C b elt) σ2 H3 fun y H4 => ∃ acc, H4 D = some (.lst acc) ∧ acc.length < sizeLine ∧ Nx (upd H4 D (.lst (acc ++ [y]))) else Nx H3) := by
  intro D hD
  have nm : D ∉ mu := fun z => by
    obtain ⟨o, h⟩ := st.tracked z
    rw [hD] at h
    cases h
  let Pv : Nat → Hp → Prop := fun i H' => i ≤ lenOf src ∧ ∃ mu' nu' S' ws ds fps rs, Stp H mu nu H' mu' nu' ∧ Sta T ad b H' mu' nu' s e S' ∧ SrcAt T ad K H' mu' nu' src J ∧ H' D = some (.lst ws) ∧ D ∉ mu' ∧ RepOL T ad H' mu' nu' ws ds fps ∧ Own nu' (D :: fps) ∧
    (∀ a, a ∈ fps → H a = none) ∧ lcAt (lcF T C b t ifs elt (wipeE e own)) src i S' = .ok rs S2 ∧ ds ++ rs = xs
  refine ⟨fun i m H' => m = lenOf src - i ∧ Pv i H', ⟨_, rfl, Nat.zero_le _, mu, fun a => nu a ∨ a = D, S, [], [], [], xs, new_stp hD _ (fun a z => z) fun a z => .inl z, st.made hD _ (fun a z => z) fun a z => .inl z, ?_, upd_same, nm, .nil, ?_, fun a m => absurd m List.not_mem_nil, hr, rfl⟩, ?_⟩
  · exact hs.keeps (new_kpO hD _ fun a z => z).toKp
  · exact ⟨List.nodup_cons.mpr ⟨List.not_mem_nil, List.nodup_nil⟩, fun a m => .inr (List.mem_singleton.mp m)⟩
  rintro i m H' ⟨rfl, hi, mu', nu', S', ws, ds, fps, rs, x', st', hs', hD', nm', rl', ow', fr', hr', he'⟩
  have nD : nu' D := ow'.2 D List.mem_cons_self
  obtain ⟨nf', ndf'⟩ := List.nodup_cons.mp ow'.1
  have owf : Own nu' fps := ⟨ndf', fun a m => ow'.2 a (List.mem_cons_of_mem _ m)⟩
  rcases lcAt_turn hi hr' with ⟨d, ys, S1, rs', hlt, hit, hf, hrr, hzs⟩ | ⟨hlen, hit, hzs, hS⟩
  · obtain ⟨h1, h2⟩ := src_item st' hs' hit
    refine .inr ⟨h1, Pv (i + 1), fun H'' q => ⟨lenOf src - (i + 1), by omega, rfl, q⟩, fun x H'' hy => ?_⟩
    obtain ⟨rfl, rx⟩ := h2 x H'' hy
    obtain ⟨e1, c, S3, ha, hc, hcase⟩ := lcF_inv hf
    refine gT_mono t (gT_own t hown (asgV_ok t (st'.wipe own) rx ha (Q := fun s2 H2 => H2 = H'' ∧ Sta T ad b H'' mu' nu' s2 e1 S') fun s2 st2 => ⟨rfl, st2⟩)) fun s2 H2 hh => ?_
    obtain ⟨hw, rfl, st2⟩ := hh
    refine ⟨hw.trans (wipe_wipe s), ifs_ok hifs st2 hc fun H3 mu3 nu3 x3 st3 => ?_⟩
    rcases hcase with ⟨rfl, y, hev, rfl⟩ | ⟨rfl, rfl, rfl⟩
    · rw [if_pos rfl]
      refine ⟨mu3, nu3, e1, S3, st3, ?_⟩
      rw [hev]
      intro v H4 mu4 nu4 fp4 x4 st4 ro4 ow4 fr4
      have x34 := x3.trans x4
      obtain ⟨k1, k2, _⟩ := x34.keep D _ hD' nm'
      have fr4' : ∀ a, a ∈ fp4 → H2 a = none := fun a m => x3.free ((fr4 a m).elim (fun z => absurd z List.not_mem_nil) id)
      have nD4 : nu4 D := x34.grow D nD
      have d4 : D ∉ fp4 := fun m => by
        rw [fr4' D m] at hD'
        cases hD'
      have ow5 : Own nu4 (fps ++ fp4) := Own.app st'.sub x34 owf ow4 fr4' (own_trk st' owf)
      have r1 : RepOL T ad H4 mu4 nu4 [v] [y] fp4 := by
        have z := RepOL.cons ro4 .nil
        rw [List.append_nil] at z
        exact z
      have r5 : RepOL T ad H4 mu4 nu4 (ws ++ [v]) (ds ++ [y]) (fps ++ fp4) := (RepOL.keeps (x34.keepsO st'.sub) ds rl').app r1
      have nf5 : D ∉ fps ++ fp4 := fun m => (List.mem_append.mp m).elim nf' d4
      refine ⟨ws, k1, ?_, hlt, mu4, nu4, S1, ws ++ [v], ds ++ [y], fps ++ fp4, rs', (x'.trans x34).writ hD, (st'.back x34 st4.bare).writ nD4 k2, (hs'.keeps (x34.keeps st'.sub)).keeps (writ_kp nD4), upd_same, k2, r5.writ nD4 nf5, ?_, fun a m => ?_, hrr, ?_⟩
      · rw [rl'.length]
        have := congrArg List.length he'
        rw [hzs, List.length_append, List.length_append, List.length_cons] at this
        omega
      · refine ⟨List.nodup_cons.mpr ⟨nf5, ow5.1⟩, fun a m => ?_⟩
        rcases List.mem_cons.mp m with z | m
        · rw [z]; exact nD4
        · exact ow5.2 a m
      · rcases List.mem_append.mp m with m | m
        · exact fr' a m
        · exact x'.free (fr4' a m)
      · rw [← he', hzs, List.append_assoc]
    · rw [if_neg Bool.false_ne_true]
      obtain ⟨k1, k2, _⟩ := x3.keep D _ hD' nm'
      refine ⟨hlt, mu3, nu3, S1, ws, ds, fps, rs', x'.trans x3, st'.back x3 st3.bare, hs'.keeps (x3.keeps st'.sub), k1, k2, RepOL.keeps (x3.keepsO st'.sub) ds rl', ⟨ow'.1, fun a m => x3.grow a (ow'.2 a m)⟩, fr', hrr, ?_⟩
      rw [← he', hzs]
      rfl
  · subst hzs hS
    rw [List.append_nil] at he'
    subst he'
    refine .inl ⟨src_stop st' hs' hit, p (.ref D) H' mu' nu' (D :: fps) x' st' (.lst nm' hD' rl') ow' fun a m => .inr ?_⟩
    rcases List.mem_cons.mp m with z | m
    · rw [z]; exact hD
    · exact fr' a m
end
end Dl
end

section
set_option Elab.async false
set_option linter.all false
set_option maxRecDepth 100000
set_option maxHeartbeats 1000000
/-! D30: comprehensions of one clause. -/
namespace Dl
open PySem PySem.Spec PyProof.Rows L2
section
variable {T : Pg} {ad : Ad} {b : List Nat} {W : WX} {X : Cx} {K : PySem.W.Frag} {C : List Nat → Nat → List D → Sto → R D}
variable {s : L2.St} {e : Env} {S : Sto} {H : Hp} {mu : List Addr} {nu : Addr → Prop}
theorem R.bind_bind {α β γ : Type} (r : R α) (f : α → Sto → R β) (g : β → Sto → R γ) : (r.bind f).bind g = r.bind fun a S => (f a S).bind g := by
  cases r <;> rfl
theorem lc_end {src : Src} {J : L2.It} {t : Tg} {ifs : List Q} {elt : E} {own : List Nat} {P : VK} (hown : ∀ i, i ∈ tgs t → i ∈ own) (hifs : ifs.length ≤ 1) (st : Sta T ad b H mu nu s e S) (hs : SrcAt T ad K H mu nu src J)
    (p : Pst T ad b W s e ((loopR (lcF T C b t ifs elt (wipeE e own)) src S).bind fun xs S => if xs.length < sizeLine then .ok (.lst true xs) S else .er) H mu nu [] P) :
    ∀ D, H D = none → ∃ Wv : Nat → Nat → Hp → Prop, (∃ m, Wv 0 m (upd H D (.lst []))) ∧ ∀ i m H', Wv i m H' →
      (J.stop i H' ∧ P (.ref D) H') ∨ (J.go i H' ∧ ∃ Nx : Hp → Prop, (∀ H'', Nx H'' → ∃ m', m' < m ∧ Wv (i + 1) m' H'') ∧ ∀ x H'', J.yld i H' x H'' → gT K t x (wipe s own) H'' fun σ2 H2 => wipe σ2 own = wipe s own ∧ tIfs T ad b C ifs σ2 H2 fun c H3 =>
        if c = true then tE T ad b noX (ev T C b elt) σ2 H3 fun y H4 => ∃ acc, H4 D = some (.lst acc) ∧ acc.length < sizeLine ∧ Nx (upd H4 D (.lst (acc ++ [y]))) else Nx H3) := by
  cases hl : loopR (lcF T C b t ifs elt (wipeE e own)) src S with
  | er => rw [hl] at p; exact p.elim
  | ex c vs S2 => exact absurd hl (loopR_ex fun d S c vs S2 => R.noex_ex)
  | ok xs S2 =>
    rw [hl] at p
    have p' : Pst T ad b W s e (if xs.length < sizeLine then R.ok (D.lst true xs) S2 else R.er) H mu nu [] P := p
    split at p'
    · rename_i hz
      exact lc_loop hown hifs st hs (loopR_at ▸ hl) hz p'
    · exact p'.elim
theorem lc_ok {t : Tg} {a elt : E} {ifs : List Q} {own : List Nat} (hown : ∀ i, i ∈ tgs t → i ∈ own) (hifs : ifs.length ≤ 1) : ∀ s H P, tE T ad b W (ev T C b (.lc own elt [.mk t (.e a) ifs])) s H P →
    tLc (iSeq K (tE T ad b W (ev T C b a))) (gT K t) (tIfs T ad b C ifs) (tE T ad b noX (ev T C b elt)) own s H P := fun s H P h => by
  obtain ⟨mu, nu, e, S, st, p⟩ := h
  rw [ev, evI, R.bind_bind] at p
  refine tE_bind0 st p fun v d S1 H1 mu1 nu1 fp x1 st1 ro ow fr p1 => ?_
  obtain ⟨x2, st2, r2⟩ := land1 x1 st st1 ro fr
  cases hi : itF d S1 with
  | er => rw [hi] at p1; exact p1.elim
  | ex c vs S2 => exact absurd hi itF_ex
  | ok src S2 =>
    rw [hi] at p1
    obtain ⟨rfl, J, a, rfl, hs, hj⟩ := src_ok (K := K) st2 r2 hi
    have p2 : Pst T ad b W s e ((loopR (lcF T C b t ifs elt (wipeE e own)) src S2).bind fun xs S => if xs.length < sizeLine then .ok (.lst true xs) S else .er) H mu nu [] P := p1
    have q := lc_end (K := K) hown hifs st2 hs (p2.step x2 fun _ m => absurd m List.not_mem_nil)
    rcases hj with ⟨rfl, hx⟩ | ⟨rfl, hx⟩
    · exact .inl ⟨a, rfl, hx, q⟩
    · exact .inr ⟨a, rfl, hx, q⟩
end
end Dl
end

section
set_option Elab.async false
set_option linter.all false
set_option maxRecDepth 100000
set_option maxHeartbeats 1000000
/-! D31: calls by keywords. -/
namespace Dl
open PySem PySem.Spec PyProof.Rows L2
theorem pick_vals {ps : List Nat} {vs : List V} {us : List Value} (r : Vals vs us) (n : Nat) : Vals (pickA n ps vs) (pickA n ps us) := by
  have look : ∀ {ps : List Nat} {vs : List V} {us : List Value} (i : Nat), Vals vs us → (∃ v u, (ps.zip vs).lookup i = some v ∧ (ps.zip us).lookup i = some u ∧ RelV v u) ∨ ((ps.zip vs).lookup i = none ∧ (ps.zip us).lookup i = none) := by
    intro ps
    induction ps with
    | nil => intro vs us i _; exact .inr ⟨rfl, rfl⟩
    | cons p ps ih =>
      intro vs us i r
      cases r with
      | nil => exact .inr ⟨rfl, rfl⟩
      | cons q t =>
        simp only [List.zip_cons_cons, List.lookup]
        cases hb : (i == p) with
        | true => exact .inl ⟨_, _, rfl, rfl, q⟩
        | false => exact ih i t
  unfold pickA
  induction (List.range n) with
  | nil => exact .nil
  | cons i is ih =>
    rcases look (ps := ps) i r with ⟨v, u, h1, h2, q⟩ | ⟨h1, h2⟩
    · simp only [List.filterMap_cons, h1, h2]
      exact .cons q ih
    · simp only [List.filterMap_cons, h1, h2]
      exact ih
section
variable {T : Pg} {ad : Ad} {b : List Nat} {W : WX} {X : Cx} {K : PySem.W.Frag} {C : List Nat → Nat → List D → Sto → R D}
variable {s : L2.St} {e : Env} {S : Sto} {H : Hp} {mu : List Addr} {nu : Addr → Prop}
theorem pick_rep {ps : List Nat} {vs : List V} {ds : List D} (r : RepL T ad H mu nu vs ds) (n : Nat) : RepL T ad H mu nu (pickA n ps vs) (pickA n ps ds) := by
  have look : ∀ {ps : List Nat} {vs : List V} {ds : List D} (i : Nat), RepL T ad H mu nu vs ds → (∃ v u, (ps.zip vs).lookup i = some v ∧ (ps.zip ds).lookup i = some u ∧ Rep T ad H mu nu v u) ∨ ((ps.zip vs).lookup i = none ∧ (ps.zip ds).lookup i = none) := by
    intro ps
    induction ps with
    | nil => intro vs us i _; exact .inr ⟨rfl, rfl⟩
    | cons p ps ih =>
      intro vs us i r
      cases r with
      | nil => exact .inr ⟨rfl, rfl⟩
      | cons q t =>
        simp only [List.zip_cons_cons, List.lookup]
        cases hb : (i == p) with
        | true => exact .inl ⟨_, _, rfl, rfl, q⟩
        | false => exact ih i t
  unfold pickA
  induction (List.range n) with
  | nil => exact .nil
  | cons i is ih =>
    rcases look (ps := ps) i r with ⟨v, u, h1, h2, q⟩ | ⟨h1, h2⟩
    · simp only [List.filterMap_cons, h1, h2]
      exact .cons q ih
    · simp only [List.filterMap_cons, h1, h2]
      exact ih
/-- a call with keywords alone -/
def tCallK0 (sp : Sp) (ps : List Nat) (E : L2.St → XK) (t : TA) : TE := fun σ H Q => t σ H fun vs H1 => vs.length = ps.length ∧ sp (pickA ps.length ps vs) H1 Q (E σ)
theorem callK_ok {k : Nat} {es : List E} {ps : List Nat} : ∀ s H P, tE T ad b W (ev T C b (.callK k es ps)) s H P → tCallK0 (spG T ad C k) ps (eX W) (tA T ad b W (evs T C b es)) s H P := fun s H P h => by
  obtain ⟨mu, nu, e, S, st, p⟩ := h
  rw [ev] at p
  refine tA_bind0 st p fun vs ds S1 H1 mu1 nu1 fp x1 st1 ro ow fr p1 => ?_
  split at p1
  · rename_i hl
    obtain ⟨x2, st2, rl⟩ := land x1 st st1 ro fr
    rw [hl] at p1
    exact ⟨by rw [ro.length]; exact hl, call_sp st2 (pick_rep rl _) (p1.step x2 fun _ m => absurd m List.not_mem_nil)⟩
  · exact p1.elim
end
section
variable {X : Cx} {CX : CXT} {k : Nat} {f : Addr} {fd : FuncData} {ns ks : List Str} {sp : Sp} {E : L2.St → XK} {x : Str} {p pos : Pos} {tk : TA} {kws : List Keyword} {ps : List Nat}
/-- how the keywords bind -/
def KbG0 (fd : FuncData) (ns ks : List Str) (ps : List Nat) : Prop := ∀ ws : List Value, ws.length = ks.length → bindArgs fd ⟨[], ks.zip ws⟩ = pure (ns.zip (pickA ps.length ps ws))
theorem pe_callKG0 (F : FnG X.prog X.w X.K X.mg X.base CX k f fd ns sp) (hr : RmG k X.A) (hg : Gl X x) (hm : X.mg x = some (.ref f)) (hk : PySem.W.keepIn X.K (.ref f) = true) (hb : KbG0 fd ns ks ps) (hl : ps.length = ks.length) (hx : ∀ σ, PassesAt CX X σ (E σ))
    (hkw : PK X kws tk) (hall : (backToKw pos (keywordEach kws X.env)).all (·.1.isSome) = true) (hks : (backToKw pos (keywordEach kws X.env)).filterMap (·.1) = ks)
    (hdb : (x == ("__debug__" : Str)) = false) (hpl : ((backTo pos (starEach [] X.env)).any (·.1) || (backToKw pos (keywordEach kws X.env)).any (·.1.isNone)) = false) :
    PE X (.Call (.Name x p) [] kws pos) (tCallK0 sp ps E tk) := by
  refine ⟨fun pins s σ H Q I h => wpAny_Call_Name_kw (ld_glob I hg hm ?_ hdb)⟩
  refine PySem.W.callWith_KW0 (h₀ := X.base) I.ok.mod.kin hk hall ?_ hpl
  refine thn (hkw.run pos pins s σ H _ I h) fun ws s2 ⟨zs, H2, I2, rz, l1, q2⟩ => ⟨I2.kIn, ?_⟩
  rw [hks]
  exact run_G (us := []) F hr (.of_eq (hb ws (by rw [← rz.length, l1, hl]))) (hx σ) I2 (pick_vals rz _) q2
end
end Dl
end

section
set_option Elab.async false
set_option linter.all false
set_option maxRecDepth 100000
set_option maxHeartbeats 1000000
/-! D32: what is walked, as one reading; comprehensions of one clause over it. -/
namespace Dl
open PySem PySem.Spec PyProof.Rows L2
/-- what HandS can walk -/
def itn : Dl.It → Bool
  | .e _ => true
  | .rng [x] => nost x
  | .rng [x, y] => nost x && nost y
  | _ => false
section
variable {T : Pg} {ad : Ad} {b : List Nat} {W : WX} {X : Cx} {K : PySem.W.Frag} {C : List Nat → Nat → List D → Sto → R D}
variable {s : L2.St} {e : Env} {S : Sto} {H : Hp} {mu : List Addr} {nu : Addr → Prop}
def tI (T : Pg) (ad : Ad) (b : List Nat) (W : WX) (K : PySem.W.Frag) (C : List Nat → Nat → List D → Sto → R D) : Dl.It → TI
  | .e a => iSeq K (tE T ad b W (ev T C b a))
  | .rng [x] => iRng1 (tA T ad b W (evs T C b [x]))
  | .rng es => iRng2 (tA T ad b W (evs T C b es))
theorem rngF_ex {ds : List D} {S : Sto} {c : Nat} {vs : List D} {S2 : Sto} : rngF ds S ≠ .ex c vs S2 := by
  unfold rngF
  split
  · split <;> (intro h; cases h)
  · split <;> (intro h; cases h)
  · intro h; cases h
theorem it_ok {it : Dl.It} {Rk : L2.It → Hp → Prop} (hn : itn it = true) (st : Sta T ad b H mu nu s e S)
    (ke : evI T C b it e S = .er → False)
    (kx : ∀ c xs S1, evI T C b it e S = .ex c xs S1 → ∀ H' mu' nu' dx Vs, Stp H mu nu H' mu' nu' → Sta T ad b H' mu' nu' s e S1 → RepL T ad H' mu' nu' Vs xs → ¬ nu' dx → H' dx = some (.xd ((fnm T ad c).zip Vs)) → W (.ref (ad.cl c)) (some dx) s H')
    (k : ∀ src S1 H1 mu1 nu1 J, evI T C b it e S = .ok src S1 → Stp H mu nu H1 mu1 nu1 → Sta T ad b H1 mu1 nu1 s e S1 → SrcAt T ad K H1 mu1 nu1 src J → Rk J H1) : tI T ad b W K C it s H Rk := by
  have rg : ∀ (es : List E), it = .rng es → (es.all nost = true) → tA T ad b W (evs T C b es) s H fun vs H1 => (es.length = 1 ∧ ∃ j : Int, vs = [.int j] ∧ -(2 ^ 62) ≤ j ∧ j < 2 ^ 62 ∧ Rk (Itr 0 j.toNat) H1) ∨ (es.length = 2 ∧ ∃ i j : Int, vs = [.int i, .int j] ∧ (-(2 ^ 62) ≤ i ∧ i < 2 ^ 62 ∧ -(2 ^ 62) ≤ j ∧ j < 2 ^ 62) ∧ Rk (Itr i (j - i).toNat) H1) := by
    rintro es rfl hn
    refine ⟨mu, nu, e, S, st, ?_⟩
    rw [evI] at ke kx k
    cases h : evs T C b es e S with
    | er => rw [h] at ke; exact ke rfl
    | ex c xs S1 => rw [h] at kx; exact kx c xs S1 rfl
    | ok ds S1 =>
      rw [h] at ke k
      have ke' : rngF ds S1 = .er → False := ke
      have k' : ∀ src S2 H1 mu1 nu1 J, rngF ds S1 = .ok src S2 → Stp H mu nu H1 mu1 nu1 → Sta T ad b H1 mu1 nu1 s e S2 → SrcAt T ad K H1 mu1 nu1 src J → Rk J H1 := k
      intro vs H1 mu1 nu1 fp x1 st1 ro ow fr
      have hl := evs_len hn h
      unfold rngF at ke' k'
      split at ke'
      · rename_i j
        split at ke'
        · rename_i hj
          obtain ⟨v, rfl, r⟩ := ro.one
          obtain ⟨h1, h2⟩ := small_iff hj
          refine .inl ⟨hl.symm, j, by rw [r.int.1], h1, h2, ?_⟩
          have q := k' (.its (rngL 0 j)) S1 H1 mu1 nu1 (Itr 0 (j - 0).toNat) (by dsimp only; rw [if_pos hj]) x1 st1 .rng
          rw [Int.sub_zero] at q
          exact q
        · exact (ke' rfl).elim
      · rename_i i j
        split at ke'
        · rename_i hj
          obtain ⟨v1, v2, f1, f2, rfl, rfl, r1, r2⟩ := ro.two
          have hj' := hj
          rw [Bool.and_eq_true] at hj'
          obtain ⟨h1, h2⟩ := small_iff hj'.1
          obtain ⟨h3, h4⟩ := small_iff hj'.2
          exact .inr ⟨hl.symm, i, j, by rw [r1.int.1, r2.int.1], ⟨h1, h2, h3, h4⟩, k' (.its (rngL i j)) S1 H1 mu1 nu1 _ (by dsimp only; rw [if_pos hj]) x1 st1 .rng⟩
        · exact (ke' rfl).elim
      · exact (ke' rfl).elim
  have imp : ∀ {r : R (List D)} {Q1 Q2 : List V → Hp → Prop} {mu nu e}, PstL T ad b W s e r H mu nu [] Q1 → (∀ vs H1, Q1 vs H1 → Q2 vs H1) → PstL T ad b W s e r H mu nu [] Q2 := by
    intro r Q1 Q2 mu nu e q hq
    cases r with
    | ok d S => exact fun vs H' mu' nu' fp x' st ro ow fr => hq _ _ (q vs H' mu' nu' fp x' st ro ow fr)
    | ex c xs S => exact q
    | er => exact q
  cases it with
  | e a =>
    refine ⟨mu, nu, e, S, st, ?_⟩
    rw [evI] at ke kx k
    cases h : ev T C b a e S with
    | er => rw [h] at ke; exact ke rfl
    | ex c xs S1 => rw [h] at kx; exact kx c xs S1 rfl
    | ok d S1 =>
      rw [h] at ke k
      have ke' : itF d S1 = .er → False := ke
      have k' : ∀ src S2 H1 mu1 nu1 J, itF d S1 = .ok src S2 → Stp H mu nu H1 mu1 nu1 → Sta T ad b H1 mu1 nu1 s e S2 → SrcAt T ad K H1 mu1 nu1 src J → Rk J H1 := k
      intro v H1 mu1 nu1 fp x1 st1 ro ow fr
      have fr' : ∀ a, a ∈ fp → H a = none := fun a h => (fr a h).elim (fun z => absurd z List.not_mem_nil) id
      obtain ⟨x2, st2, r2⟩ := land1 x1 st st1 ro fr'
      cases hi : itF d S1 with
      | er => exact (ke' hi).elim
      | ex c vs S2 => exact absurd hi itF_ex
      | ok src S2 =>
        obtain ⟨rfl, J, a, rfl, hs, hj⟩ := src_ok (K := K) st2 r2 hi
        have q := k' src S2 H1 mu1 _ J hi x2 st2 hs
        rcases hj with ⟨rfl, hx⟩ | ⟨rfl, hx⟩
        · exact .inl ⟨a, rfl, hx, q⟩
        · exact .inr ⟨a, rfl, hx, q⟩
  | rng es =>
    match es, hn with
    | [x], hn =>
      obtain ⟨mu, nu, e, S, st, p⟩ := rg [x] rfl (by simp [show nost x = true from hn])
      refine ⟨mu, nu, e, S, st, imp p fun vs H1 q => ?_⟩
      rcases q with ⟨_, q⟩ | ⟨h, _⟩
      · exact q
      · simp at h
    | [x, y], hn =>
      have hn' : nost x = true ∧ nost y = true := (Bool.and_eq_true _ _).mp hn
      obtain ⟨mu, nu, e, S, st, p⟩ := rg [x, y] rfl (by simp [hn'.1, hn'.2])
      refine ⟨mu, nu, e, S, st, imp p fun vs H1 q => ?_⟩
      rcases q with ⟨h, _⟩ | ⟨_, q⟩
      · simp at h
      · exact q
theorem lcI_ok {it : Dl.It} {t : Tg} {elt : E} {ifs : List Q} {own : List Nat} (hn : itn it = true) (hown : ∀ i, i ∈ tgs t → i ∈ own) (hifs : ifs.length ≤ 1) : ∀ s H P, tE T ad b W (ev T C b (.lc own elt [.mk t it ifs])) s H P →
    tLc (tI T ad b W K C it) (gT K t) (tIfs T ad b C ifs) (tE T ad b noX (ev T C b elt)) own s H P := fun s H P h => by
  obtain ⟨mu, nu, e, S, st, p⟩ := h
  rw [ev] at p
  refine it_ok hn st (fun h => ?_) (fun c xs S1 h => ?_) fun src S1 H1 mu1 nu1 J h x1 st1 hs => ?_
  · rw [h] at p; exact p.elim
  · rw [h] at p; exact p
  · rw [h] at p
    have p2 : Pst T ad b W s e ((loopR (lcF T C b t ifs elt (wipeE e own)) src S1).bind fun xs S => if xs.length < sizeLine then .ok (.lst true xs) S else .er) H mu nu [] P := p
    exact lc_end (K := K) hown hifs st1 hs (p2.step x1 fun _ m => absurd m List.not_mem_nil)
theorem forI_ok {it : Dl.It} {t : Tg} {body : List Dl.S} (hn : itn it = true) : ∀ D' s H, tX T ad b W (exec T C b (.for_ t it body)) D' s H → tFor (tI T ad b W K C it) (gT K t) (tX T ad b W (execs T C b body)) D' s H := fun D' s H h => by
  obtain ⟨mu, nu, e, S, st, p⟩ := h
  rw [exec] at p
  refine it_ok hn st (fun h => ?_) (fun c xs S1 h => ?_) fun src S1 H1 mu1 nu1 J h x1 st1 hs => ?_
  · rw [h] at p; exact p.elim
  · rw [h] at p; exact fun H' mu' nu' dx Vs x' st' rl nx hx => p s H' mu' nu' dx Vs x' st' rl nx hx
  · rw [h] at p
    have p2 : Sst T ad b W (forR (fun x σ S => (match asgV t x σ S with | some σ => execs T C b body σ S | none => .er)) src e S1) H mu nu D' := p
    rw [forR_at] at p2
    exact loop_ok (K := K) st1 hs (p2.step x1)
end
end Dl
end

section
set_option Elab.async false
set_option linter.all false
set_option maxRecDepth 100000
set_option maxHeartbeats 1000000
/-! D33: comprehensions of two clauses. -/
namespace Dl
open PySem PySem.Spec PyProof.Rows L2
section
variable {T : Pg} {ad : Ad} {b : List Nat} {W : WX} {X : Cx} {K : PySem.W.Frag} {C : List Nat → Nat → List D → Sto → R D}
variable {s : L2.St} {e : Env} {S : Sto} {H : Hp} {mu : List Addr} {nu : Addr → Prop}
/-- the list under way -/
structure Acc (T : Pg) (ad : Ad) (b : List Nat) (K : PySem.W.Frag) (H : Hp) (mu : List Addr) (nu : Addr → Prop) (L : Addr) (src : Src) (J : L2.It) (H' : Hp) (mu' : List Addr) (nu' : Addr → Prop) (S' : Sto) (ws : List V) (ds : List D) (fps : List Addr) : Prop where
  x : Stp H mu nu H' mu' nu'
  bare : Sta T ad b H' mu' nu' [] [] S'
  sr : SrcAt T ad K H' mu' nu' src J
  at_ : H' L = some (.lst ws)
  nm : L ∉ mu'
  rl : RepOL T ad H' mu' nu' ws ds fps
  ow : Own nu' (L :: fps)
  fr : ∀ a, a ∈ fps → H a = none
section
variable {L : Addr} {src : Src} {J : L2.It} {H' H4 : Hp} {mu' mu4 : List Addr} {nu' nu4 : Addr → Prop} {S' S1 : Sto} {ws : List V} {ds : List D} {fps fp4 : List Addr}
theorem Acc.nD (A : Acc T ad b K H mu nu L src J H' mu' nu' S' ws ds fps) : nu' L := A.ow.2 L List.mem_cons_self
theorem Acc.go (A : Acc T ad b K H mu nu L src J H' mu' nu' S' ws ds fps) (x : Stp H' mu' nu' H4 mu4 nu4) (st : Sta T ad b H4 mu4 nu4 [] [] S1) : Acc T ad b K H mu nu L src J H4 mu4 nu4 S1 ws ds fps := by
  obtain ⟨k1, k2, _⟩ := x.keep L _ A.at_ A.nm
  exact ⟨A.x.trans x, st, A.sr.keeps (x.keeps A.bare.sub), k1, k2, RepOL.keeps (x.keepsO A.bare.sub) ds A.rl, ⟨A.ow.1, fun a m => x.grow a (A.ow.2 a m)⟩, A.fr⟩
theorem Acc.app {v : V} {y : D} (A : Acc T ad b K H mu nu L src J H' mu' nu' S' ws ds fps) (hL : H L = none) (x : Stp H' mu' nu' H4 mu4 nu4) (st : Sta T ad b H4 mu4 nu4 [] [] S1) (ro : RepO T ad H4 mu4 nu4 v y fp4) (ow : Own nu4 fp4) (fr : ∀ a, a ∈ fp4 → H' a = none) :
    H4 L = some (.lst ws) ∧ Acc T ad b K H mu nu L src J (upd H4 L (.lst (ws ++ [v]))) mu4 nu4 S1 (ws ++ [v]) (ds ++ [y]) (fps ++ fp4) ∧
      (∀ s e S0, Sta T ad b H' mu' nu' s e S0 → Sta T ad b (upd H4 L (.lst (ws ++ [v]))) mu4 nu4 s e S1) ∧ ∀ src J, SrcAt T ad K H' mu' nu' src J → SrcAt T ad K (upd H4 L (.lst (ws ++ [v]))) mu4 nu4 src J := by
  obtain ⟨k1, k2, _⟩ := x.keep L _ A.at_ A.nm
  obtain ⟨nf', ndf'⟩ := List.nodup_cons.mp A.ow.1
  have owf : Own nu' fps := ⟨ndf', fun a m => A.ow.2 a (List.mem_cons_of_mem _ m)⟩
  have nD4 : nu4 L := x.grow L A.nD
  have d4 : L ∉ fp4 := fun m => by
    have := A.at_
    rw [fr L m] at this
    cases this
  have ow5 : Own nu4 (fps ++ fp4) := Own.app A.bare.sub x owf ow fr (own_trk A.bare owf)
  have r1 : RepOL T ad H4 mu4 nu4 [v] [y] fp4 := by
    have z := RepOL.cons ro .nil
    rw [List.append_nil] at z
    exact z
  have r5 : RepOL T ad H4 mu4 nu4 (ws ++ [v]) (ds ++ [y]) (fps ++ fp4) := (RepOL.keeps (x.keepsO A.bare.sub) ds A.rl).app r1
  have nf5 : L ∉ fps ++ fp4 := fun m => (List.mem_append.mp m).elim nf' d4
  refine ⟨k1, ⟨(A.x.trans x).writ hL, st.writ nD4 k2, (A.sr.keeps (x.keeps A.bare.sub)).keeps (writ_kp nD4), upd_same, k2, r5.writ nD4 nf5, ⟨List.nodup_cons.mpr ⟨nf5, ow5.1⟩, fun a m => ?_⟩, fun a m => ?_⟩, fun s e S0 st0 => (st0.back x st).writ nD4 k2, fun src J h => (h.keeps (x.keeps A.bare.sub)).keeps (writ_kp nD4)⟩
  · rcases List.mem_cons.mp m with z | m
    · rw [z]; exact nD4
    · exact ow5.2 a m
  · rcases List.mem_append.mp m with m | m
    · exact A.fr a m
    · exact A.x.free (fr a m)
end
/-- one turn's values, within an outer turn -/
def lcF1 (T : Pg) (C : List Nat → Nat → List D → Sto → R D) (b : List Nat) (t : Tg) (ifs : List Q) (elt : E) (e0 : Env) : D → Sto → R (List D) := fun x S => match asgV t x e0 S with
  | some σ => (evC T C b ifs σ S).bind fun c S => if c then evG T C b [] σ S fun σ S => (ev T C b elt σ S).bind fun d S => .ok [d] S else .ok [] S
  | none => .er
theorem lcF1_inv {t : Tg} {ifs : List Q} {elt : E} {e0 : Env} {d : D} {S : Sto} {ys : List D} {S1 : Sto} (h : lcF1 T C b t ifs elt e0 d S = .ok ys S1) :
    ∃ e1 c S3, asgV t d e0 S = some e1 ∧ evC T C b ifs e1 S = .ok c S3 ∧ ((c = true ∧ ∃ y, ev T C b elt e1 S3 = .ok y S1 ∧ ys = [y]) ∨ (c = false ∧ ys = [] ∧ S1 = S3)) :=
  lcF_inv (show lcF T C b t ifs elt e0 d S = .ok ys S1 from by
    show R.noex (lcF1 T C b t ifs elt e0 d S) = _
    rw [h]
    rfl)
/-- one turn's values of the first clause -/
def lcF2 (T : Pg) (C : List Nat → Nat → List D → Sto → R D) (b : List Nat) (t : Tg) (ifs : List Q) (t1 : Tg) (it1 : Dl.It) (ifs1 : List Q) (elt : E) (e0 : Env) : D → Sto → R (List D) := fun x S => R.noex (match asgV t x e0 S with
  | some σ => (evC T C b ifs σ S).bind fun c S => if c then (evI T C b it1 σ S).bind fun s S => loopR (lcF1 T C b t1 ifs1 elt σ) s S else .ok [] S
  | none => .er)
theorem lcF2_inv {t t1 : Tg} {it1 : Dl.It} {ifs ifs1 : List Q} {elt : E} {e0 : Env} {d : D} {S : Sto} {ys : List D} {S1 : Sto} (h : lcF2 T C b t ifs t1 it1 ifs1 elt e0 d S = .ok ys S1) :
    ∃ e1 c S3, asgV t d e0 S = some e1 ∧ evC T C b ifs e1 S = .ok c S3 ∧ ((c = true ∧ ∃ src S4, evI T C b it1 e1 S3 = .ok src S4 ∧ loopR (lcF1 T C b t1 ifs1 elt e1) src S4 = .ok ys S1) ∨ (c = false ∧ ys = [] ∧ S1 = S3)) := by
  have h' := R.noex_inv h
  cases ha : asgV t d e0 S with
  | none => rw [ha] at h'; cases h'
  | some e1 =>
    rw [ha] at h'
    obtain ⟨c, S3, h1, h2⟩ := R.bind_inv h'
    refine ⟨e1, c, S3, rfl, h1, ?_⟩
    cases c with
    | true =>
      rw [if_pos rfl] at h2
      obtain ⟨src, S4, h3, h4⟩ := R.bind_inv h2
      exact .inl ⟨rfl, src, S4, h3, h4⟩
    | false =>
      rw [if_neg Bool.false_ne_true] at h2
      cases h2
      exact .inr ⟨rfl, rfl, rfl⟩
theorem wipe_at {vs : List Nat} {s : L2.St} {i : Nat} : i ∈ vs → (wipe s vs)[i]? = some none ∨ (wipe s vs)[i]? = none := by
  induction vs with
  | nil => intro h; exact absurd h List.not_mem_nil
  | cons v vs ih =>
    intro h
    show ((wipe s vs).set v none)[i]? = _ ∨ _
    by_cases e : v = i
    · subst e
      by_cases hl : v < (wipe s vs).length
      · exact .inl (by rw [List.getElem?_set_self hl])
      · exact .inr (by show ((wipe s vs).set v none)[v]? = none; rw [List.getElem?_eq_none]; rw [List.length_set]; omega)
    · rcases List.mem_cons.mp h with z | h
      · exact absurd z.symm e
      · rcases ih h with q | q
        · exact .inl (by rw [List.getElem?_set_ne e]; exact q)
        · exact .inr (by show ((wipe s vs).set v none)[i]? = none; rw [List.getElem?_set_ne e]; exact q)
theorem wipe_id {vs : List Nat} {s : L2.St} (h : ∀ i, i ∈ vs → s[i]? = some none ∨ s[i]? = none) : wipe s vs = s := by
  induction vs with
  | nil => rfl
  | cons v vs ih =>
    show (wipe s vs).set v none = s
    rw [ih fun i m => h i (List.mem_cons_of_mem _ m)]
    rcases h v List.mem_cons_self with q | q
    · apply List.ext_getElem?
      intro i
      by_cases e : v = i
      · subst e
        rw [List.getElem?_set_self (List.getElem?_eq_some_iff.mp q).1, q]
      · rw [List.getElem?_set_ne e]
    · exact List.set_eq_of_length_le (List.getElem?_eq_none_iff.mp q)
theorem wipe_eq {vs : List Nat} {s s' : L2.St} {i : Nat} (h : wipe s vs = wipe s' vs) (hi : i ∉ vs) : s[i]? = s'[i]? := by
  have := congrArg (fun l => l[i]?) h
  rwa [wipe_out hi, wipe_out hi] at this
/-- the second clause's loop -/
theorem lc2_in {src src1 : Src} {J J1 : L2.It} {t1 : Tg} {ifs1 : List Q} {elt : E} {L : Addr} {Nx : Hp → Prop} {s2 : L2.St} {e1 : Env} {H4 : Hp} {mu4 : List Addr} {nu4 : Addr → Prop} {S4 S2 : Sto} {ws : List V} {ds : List D} {fps : List Addr} {ys : List D}
    (hifs : ifs1.length ≤ 1) (hw : wipe s2 (tgs t1) = s2) (hL : H L = none) (A : Acc T ad b K H mu nu L src J H4 mu4 nu4 S4 ws ds fps) (st : Sta T ad b H4 mu4 nu4 s2 e1 S4) (hs : SrcAt T ad K H4 mu4 nu4 src1 J1)
    (hr : lcAt (lcF1 T C b t1 ifs1 elt e1) src1 0 S4 = .ok ys S2) (hz : (ds ++ ys).length < sizeLine) (hN : ∀ H' mu' nu' ws' fps', Acc T ad b K H mu nu L src J H' mu' nu' S2 ws' (ds ++ ys) fps' → Nx H') :
    ∃ W1 : Nat → Nat → Hp → Prop, (∃ m, W1 0 m H4) ∧ ∀ j k H, W1 j k H →
      (J1.stop j H ∧ Nx H) ∨ (J1.go j H ∧ ∃ Nx1 : Hp → Prop, (∀ H', Nx1 H' → ∃ k', k' < k ∧ W1 (j + 1) k' H') ∧ ∀ x H', J1.yld j H x H' → gT K t1 x (wipe s2 (tgs t1)) H' fun σ3 H5 => wipe σ3 (tgs t1) = wipe s2 (tgs t1) ∧ tIfs T ad b C ifs1 σ3 H5 fun c H6 =>
        if c = true then tE T ad b noX (ev T C b elt) σ3 H6 fun y H7 => ∃ acc, H7 L = some (.lst acc) ∧ acc.length < sizeLine ∧ Nx1 (upd H7 L (.lst (acc ++ [y]))) else Nx1 H6) := by
  let Pv : Nat → Hp → Prop := fun j H' => j ≤ lenOf src1 ∧ ∃ mu' nu' S' ws' ds' fps' rs, Acc T ad b K H mu nu L src J H' mu' nu' S' ws' ds' fps' ∧ Sta T ad b H' mu' nu' s2 e1 S' ∧ SrcAt T ad K H' mu' nu' src1 J1 ∧ lcAt (lcF1 T C b t1 ifs1 elt e1) src1 j S' = .ok rs S2 ∧ ds' ++ rs = ds ++ ys
  refine ⟨fun j m H' => m = lenOf src1 - j ∧ Pv j H', ⟨_, rfl, Nat.zero_le _, mu4, nu4, S4, ws, ds, fps, ys, A, st, hs, hr, rfl⟩, ?_⟩
  rintro j m H' ⟨rfl, hj, mu', nu', S', ws', ds', fps', rs, A', st', hs', hr', he'⟩
  rcases lcAt_turn hj hr' with ⟨d, zs, S1, rs', hlt, hit, hf, hrr, hzs⟩ | ⟨hlen, hit, hzs, hS⟩
  · obtain ⟨h1, h2⟩ := src_item st' hs' hit
    refine .inr ⟨h1, Pv (j + 1), fun H'' q => ⟨lenOf src1 - (j + 1), by omega, rfl, q⟩, fun x H'' hy => ?_⟩
    obtain ⟨rfl, rx⟩ := h2 x H'' hy
    obtain ⟨e2, c, S3, ha, hc, hcase⟩ := lcF1_inv hf
    refine gT_mono t1 (gT_own t1 (fun i m => m) (asgV_ok t1 (s := wipe s2 (tgs t1)) (by rw [hw]; exact st') rx ha (Q := fun s3 H2 => H2 = H'' ∧ Sta T ad b H'' mu' nu' s3 e2 S') fun s3 st3 => ⟨rfl, st3⟩)) fun s3 H2 hh => ?_
    obtain ⟨hw3, rfl, st3⟩ := hh
    refine ⟨hw3.trans (wipe_wipe s2), ifs_ok hifs st3 hc fun H3 mu3 nu3 x3 st4 => ?_⟩
    rcases hcase with ⟨rfl, y, hev, rfl⟩ | ⟨rfl, rfl, rfl⟩
    · rw [if_pos rfl]
      refine ⟨mu3, nu3, e2, S3, st4, ?_⟩
      rw [hev]
      intro v H5 mu5 nu5 fp5 x5 st5 ro5 ow5 fr5
      have fr5' : ∀ a, a ∈ fp5 → H2 a = none := fun a m => x3.free ((fr5 a m).elim (fun z => absurd z List.not_mem_nil) id)
      obtain ⟨k1, A5, q5, q6⟩ := A'.app hL (x3.trans x5) st5.bare ro5 ow5 fr5'
      refine ⟨ws', k1, ?_, hlt, mu5, nu5, S1, _, _, _, rs', A5, q5 _ _ _ st', q6 _ _ hs', hrr, ?_⟩
      · rw [A'.rl.length]
        have := congrArg List.length he'
        rw [hzs, List.length_append, List.length_append, List.length_cons] at this
        omega
      · rw [← he', hzs, List.append_assoc]
    · rw [if_neg Bool.false_ne_true]
      refine ⟨hlt, mu3, nu3, S1, ws', ds', fps', rs', A'.go x3 st4.bare, st'.back x3 st4.bare, hs'.keeps (x3.keeps st'.sub), hrr, ?_⟩
      rw [← he', hzs]
      rfl
  · subst hzs hS
    rw [List.append_nil] at he'
    subst he'
    exact .inl ⟨src_stop st' hs' hit, hN _ _ _ _ _ A'⟩
theorem lc2_ok {it it1 : Dl.It} {t t1 : Tg} {elt : E} {ifs ifs1 : List Q} {own : List Nat} (hn : itn it = true) (hn1 : itn it1 = true) (hown : ∀ i, i ∈ tgs t → i ∈ own) (hown1 : ∀ i, i ∈ tgs t1 → i ∈ own ∧ i ∉ tgs t) (hifs : ifs.length ≤ 1) (hifs1 : ifs1.length ≤ 1) :
    ∀ s H P, tE T ad b W (ev T C b (.lc own elt [.mk t it ifs, .mk t1 it1 ifs1])) s H P →
    tLc2 (tI T ad b W K C it) (gT K t) (tIfs T ad b C ifs) (tI T ad b noX K C it1) (gT K t1) (tIfs T ad b C ifs1) (tE T ad b noX (ev T C b elt)) own (tgs t1) s H P := fun s H P h => by
  obtain ⟨mu0, nu0, e, S, st0, p⟩ := h
  rw [ev] at p
  refine it_ok hn st0 (fun h => ?_) (fun c xs S1 h => ?_) fun src S1 H1 mu nu J h x1 st hs L hL => ?_
  · rw [h] at p; exact p.elim
  · rw [h] at p; exact p
  rw [h] at p
  have p1 : Pst T ad b W s e ((loopR (lcF2 T C b t ifs t1 it1 ifs1 elt (wipeE e own)) src S1).bind fun xs S => if xs.length < sizeLine then .ok (.lst true xs) S else .er) H mu0 nu0 [] P := p
  have p1 := p1.step x1 (f1 := []) fun _ m => absurd m List.not_mem_nil
  cases hl : loopR (lcF2 T C b t ifs t1 it1 ifs1 elt (wipeE e own)) src S1 with
  | er => rw [hl] at p1; exact p1.elim
  | ex c vs S2 => exact absurd hl (loopR_ex fun d S c vs S2 => R.noex_ex)
  | ok xs S2 =>
  rw [hl] at p1
  have p2 : Pst T ad b W s e (if xs.length < sizeLine then R.ok (D.lst true xs) S2 else R.er) H1 mu nu [] P := p1
  split at p2
  case isFalse => exact p2.elim
  rename_i hz
  have hr : lcAt (lcF2 T C b t ifs t1 it1 ifs1 elt (wipeE e own)) src 0 S1 = .ok xs S2 := loopR_at ▸ hl
  have nm : L ∉ mu := fun z => by
    obtain ⟨o, h⟩ := st.tracked z
    rw [hL] at h
    cases h
  let Pv : Nat → Hp → Prop := fun i H' => i ≤ lenOf src ∧ ∃ mu' nu' S' ws ds fps rs, Acc T ad b K H1 mu nu L src J H' mu' nu' S' ws ds fps ∧ lcAt (lcF2 T C b t ifs t1 it1 ifs1 elt (wipeE e own)) src i S' = .ok rs S2 ∧ ds ++ rs = xs
  refine ⟨fun i m H' => m = lenOf src - i ∧ Pv i H', ⟨_, rfl, Nat.zero_le _, mu, fun a => nu a ∨ a = L, S1, [], [], [], xs, ⟨new_stp hL _ (fun a z => z) fun a z => .inl z, st.bare.made hL _ (fun a z => z) fun a z => .inl z, hs.keeps (new_kpO hL _ fun a z => z).toKp, upd_same, nm, .nil,
    ⟨List.nodup_cons.mpr ⟨List.not_mem_nil, List.nodup_nil⟩, fun a m => .inr (List.mem_singleton.mp m)⟩, fun a m => absurd m List.not_mem_nil⟩, hr, rfl⟩, ?_⟩
  rintro i m H' ⟨rfl, hi, mu', nu', S', ws, ds, fps, rs, A', hr', he'⟩
  have st' : Sta T ad b H' mu' nu' s e S' := st.back A'.x A'.bare
  rcases lcAt_turn hi hr' with ⟨d, ys, S5, rs', hlt, hit, hf, hrr, hzs⟩ | ⟨hlen, hit, hzs, hS⟩
  · obtain ⟨h1, h2⟩ := src_item st' A'.sr hit
    refine .inr ⟨h1, Pv (i + 1), fun H'' q => ⟨lenOf src - (i + 1), by omega, rfl, q⟩, fun x H'' hy => ?_⟩
    obtain ⟨rfl, rx⟩ := h2 x H'' hy
    obtain ⟨e1, c, S3, ha, hc, hcase⟩ := lcF2_inv hf
    refine gT_mono t (gT_own t (vs := own) hown (gT_own t (vs := tgs t) (fun i m => m) (asgV_ok t (st'.wipe own) rx ha (Q := fun s2 H2 => H2 = H'' ∧ Sta T ad b H'' mu' nu' s2 e1 S') fun s2 st2 => ⟨rfl, st2⟩))) fun s2 H2 hh => ?_
    obtain ⟨hw, hwt, rfl, st2⟩ := hh
    have hw1 : wipe s2 (tgs t1) = s2 := wipe_id fun i m => by
      obtain ⟨m1, m2⟩ := hown1 i m
      rw [wipe_eq hwt m2]
      exact wipe_at m1
    refine ⟨hw.trans (wipe_wipe s), ifs_ok hifs st2 hc fun H3 mu3 nu3 x3 st3 => ?_⟩
    rcases hcase with ⟨rfl, src1, S4, hev, hlp⟩ | ⟨rfl, rfl, rfl⟩
    · rw [if_pos rfl]
      refine it_ok hn1 st3 (fun h => ?_) (fun c xs S1 h => ?_) fun src1' S4' H4 mu4 nu4 J1 h x4 st4 hs4 => ?_
      · rw [hev] at h; cases h
      · rw [hev] at h; cases h
      rw [hev] at h
      cases h
      refine lc2_in hifs1 hw1 hL (A'.go (x3.trans x4) st4.bare) st4 hs4 (loopR_at ▸ hlp) ?_ fun H5 mu5 nu5 ws5 fps5 A5 => ⟨hlt, mu5, nu5, S5, ws5, ds ++ ys, fps5, rs', A5, hrr, by rw [← he', hzs, List.append_assoc]⟩
      have := congrArg List.length he'
      rw [hzs, ← List.append_assoc, List.length_append] at this
      omega
    · rw [if_neg Bool.false_ne_true]
      exact ⟨hlt, mu3, nu3, S5, ws, ds, fps, rs', A'.go x3 st3.bare, hrr, by rw [← he', hzs]; rfl⟩
  · subst hzs hS
    rw [List.append_nil] at he'
    subst he'
    refine .inl ⟨src_stop st' A'.sr hit, p2 (.ref L) H' mu' nu' (L :: fps) A'.x st' (.lst A'.nm A'.at_ A'.rl) A'.ow fun a m => .inr ?_⟩
    rcases List.mem_cons.mp m with z | m
    · rw [z]; exact hL
    · exact A'.fr a m
end
end Dl
end

section
set_option Elab.async false
set_option linter.all false
set_option maxRecDepth 100000
set_option maxHeartbeats 1000000
/-! D34: own exceptions are made: their __init__. -/
namespace Dl
open PySem PySem.Spec PyProof.Rows L2
/-- no super() -/
def noSup : PySem.Expr → Bool
  | .Call (.Name _ _) [] [] _ => false
  | _ => true
theorem base_ok {o : PySem.Expr} {n : Str} {env : PySem.Env} {w : Sem Value} (h : noSup o = true) : attributeBase o n env w = w := by
  unfold attributeBase
  split
  · cases h
  · rfl
theorem call_attr {o : PySem.Expr} {name : Str} {apos pos : Pos} {args : List PySem.Expr} {kws : List Keyword} {env : PySem.Env} (hb : noSup o = true) (hl : (apos.endLine == pos.line) = true) (hf : methodCallForm (args.length + kws.length) (backTo pos (starEach args env)) (backToKw pos (keywordEach kws env)) = true) :
    eval (.Call (.Attribute o name apos) args kws pos) env = (do
      let ov ← eval o env
      standAt apos.atName
      let (f, first) ← holding [ov] (getMethod ov name (do return (← importBound o env).getD true))
      callWith pos f first (backTo pos (starEach args env)) (backToKw pos (keywordEach kws env))) := by
  have h : eval (.Call (.Attribute o name apos) args kws pos) env = (do
      let ov ← attributeBase o name env (eval o env)
      standAt apos.atName
      methodCall o name apos pos env ov (args.length + kws.length) (backTo pos (starEach args env)) (backToKw pos (keywordEach kws env))) := by rfl
  rw [h, base_ok hb]
  unfold methodCall calleeOf methodCallPos
  rw [hf, hl]
  simp
section
variable {X : Cx} {ta : TA} {e : Expr} {es : List Expr} {p1 p2 pos : Pos}
/-- what the class at B says where its __init__ is named -/
structure IniB (K : PySem.W.Frag) (B : Addr) : Prop where
  sp : PySem.W.specialIn K (.ref B) "__getattribute__" = some (some (.builtin "type.__getattribute__"))
  rd : ∃ mc, PySem.W.readsIn K B mc = true ∧ PySem.W.findCls K (.ref B) mc "__init__" = some (.val (.builtin "ValueError.__init__"))
theorem handed_vi : PySem.W.handedIn (Value.builtin "ValueError.__init__") = true := by decide +kernel
theorem pe_binit {x : Str} {B : Addr} (hg : Gl X x) (hm : X.mg x = some (.ref B)) (hdb : (x == ("__debug__" : Str)) = false) (i : IniB X.K B) (ha : PA X (e :: es) ta) (hl : (p2.endLine == pos.line) = true)
    (hf : methodCallForm ((e :: es).length + 0) (backTo pos (starEach (e :: es) X.env)) (backToKw pos (keywordEach [] X.env)) = true)
    (he : starEach (e :: es) X.env = (false, eval e X.env) :: starEach es X.env) (hpl : (backTo pos (starEach es X.env)).any (·.1) = false) :
    PE X (.Call (.Attribute (.Name x p1) "__init__" p2) (e :: es) [] pos) (tVeI X.K ta) := by
  obtain ⟨mc, rd, fc⟩ := i.rd
  refine ⟨fun pins s σ H Q I h => PySem.W.methodCall_KW (ld_glob I hg hm (PySem.W.method_cls I.kIn i.sp (PySem.W.cls_value I.kIn rd fc handed_vi ?_)) hdb) (call_attr rfl hl hf)⟩
  refine PyProof.Rows.callWith_method1 (thn (ha.run pos pins _ σ H _ (I.tok _) h) fun us s1 hh => ?_) he hpl
  obtain ⟨vs, H1, I1, r1, a, D, ws, rfl, hl, T, ea, q⟩ := hh
  cases r1 with
  | cons ra rw' =>
    cases (show _ = _ from ra)
    exact oinit_ok T I1 ea (by rw [← Paired.length rw', sizeLine_eq]; omega) fun s' J => ⟨.non, H1, J, rfl, q⟩
end
/-- a def's name that stands in the slot i -/
structure NmAt (X : Cx) (i : Nat) (x : Str) : Prop where
  at_ : X.N[i]? = some x
  vis : Vis X.env.scope x
  nd : (x == ("__debug__" : Str)) = false
  nc : (x == ("__classdict__" : Str)) = false
theorem NmAt.pe {X : Cx} {i : Nat} {x : Str} {p : Pos} (h : NmAt X i x) : PE X (.Name x p) (tVar i) := pe_var h.at_ h.vis h.nd h.nc
/-- the __init__ of an own exception -/
inductive InitB : List Stmt → Str → List Str → List Str → Prop
  | one {B sf g f : Str} {m : Str} {j} {p1 p2 p3 p4 p5 p6 p7 p8 p9 p10 : Pos} : (p2.endLine == p5.line) = true → InitB [.Expr (.Call (.Attribute (.Name B p1) "__init__" p2) [.Name sf p3, .Constant (.str m) j p4] [] p5) p6, .Assign [.Attribute (.Name sf p7) f p8] (.Name g p9) p10] B [sf, g] [f]
  | two {B sf g f g' f' : Str} {m : Str} {j} {p1 p2 p3 p4 p5 p6 p7 p8 p9 p10 q7 q8 q9 q10 : Pos} : (p2.endLine == p5.line) = true → InitB [.Expr (.Call (.Attribute (.Name B p1) "__init__" p2) [.Name sf p3, .Constant (.str m) j p4] [] p5) p6, .Assign [.Attribute (.Name sf p7) f p8] (.Name g p9) p10,
      .Assign [.Attribute (.Name sf q7) f' q8] (.Name g' q9) q10] B [sf, g, g'] [f, f']
/-- what it does; the newest field ahead -/
def spI (K : PySem.W.Frag) (D : Addr) (fs : List Str) : Sp := fun vs H Q _ => ∃ a ys, vs = .ref a :: ys ∧ ys.length = fs.length ∧ H a = some (exo a D none) ∧ ∀ d, H d = none → d ≠ a → Q .non (upd (upd H d (exd d (fs.reverse.zip ys.reverse))) a (exo a D (some d)))
theorem upd_upd {H : Hp} {a : Addr} {o u : HO} : upd (upd H a o) a u = upd H a u := by
  funext b
  by_cases h : b = a
  · subst h; rw [upd_same, upd_same]
  · rw [upd_ne h, upd_ne h, upd_ne h]
theorem upd_comm {H : Hp} {a d : Addr} {o u : HO} (h : a ≠ d) : upd (upd H a o) d u = upd (upd H d u) a o := by
  funext b
  by_cases h1 : b = a
  · subst h1; rw [upd_ne h, upd_same, upd_same]
  · by_cases h2 : b = d
    · subst h2; rw [upd_same, upd_ne h1, upd_same]
    · rw [upd_ne h2, upd_ne h1, upd_ne h1, upd_ne h2]
theorem init_body {X : Cx} {body : List Stmt} {B : Str} {BA C : Addr} {ps fs : List Str} (hi : InitB body B ps fs) (hg : Gl X B) (hm : X.mg B = some (.ref BA)) (hdb : (B == ("__debug__" : Str)) = false) (ib : IniB X.K BA) (T : OexC X.K C) (hno : ∀ f, f ∈ fs → PySem.W.findIn X.K (.ref C) f = some none)
    (hN : ∀ i x, ps[i]? = some x → NmAt X i x) {σ : L2.St} {H : Hp} {a : Addr} {ys : List V} {D' : Ends} (hs : ∀ (i : Nat) (v : V), (V.ref a :: ys)[i]? = some v → σ[i]? = some (some v)) (hl : ys.length = fs.length) (ha : H a = some (exo a C none))
    (k : ∀ d, H d = none → d ≠ a → D'.nx σ (upd (upd H d (exd d (fs.reverse.zip ys.reverse))) a (exo a C (some d)))) : ∃ t, PSs X body t ∧ t D' σ H := by
  cases hi with
  | one hl2 =>
    match ys, hl with
    | [y], _ =>
    refine ⟨_, pss_cons (ps_expr (pe_binit hg hm hdb ib (pa_cons (hN 0 _ rfl).pe (pa_cons pe_str pa_nil)) hl2 rfl rfl rfl)) (pss_cons (ps_ost (hN 0 _ rfl).pe (hN 1 _ rfl).pe) pss_nil), ?_⟩
    refine ⟨.ref a, hs 0 _ rfl, a, C, [V.str _], rfl, by simp, T, ha, ?_⟩
    exact ⟨y, hs 1 _ rfl, .ref a, hs 0 _ rfl, a, C, rfl, T, hno _ (by simp), .inl ⟨ha, fun d hd hn => k d hd hn⟩⟩
  | two hl2 =>
    match ys, hl with
    | [y, y'], _ =>
    refine ⟨_, pss_cons (ps_expr (pe_binit hg hm hdb ib (pa_cons (hN 0 _ rfl).pe (pa_cons pe_str pa_nil)) hl2 rfl rfl rfl)) (pss_cons (ps_ost (hN 0 _ rfl).pe (hN 1 _ rfl).pe) (pss_cons (ps_ost (hN 0 _ rfl).pe (hN 2 _ rfl).pe) pss_nil)), ?_⟩
    refine ⟨.ref a, hs 0 _ rfl, a, C, [V.str _], rfl, by simp, T, ha, ?_⟩
    refine ⟨y, hs 1 _ rfl, .ref a, hs 0 _ rfl, a, C, rfl, T, hno _ (by simp), .inl ⟨ha, fun d hd hn => ?_⟩⟩
    refine ⟨y', hs 2 _ rfl, .ref a, hs 0 _ rfl, a, C, rfl, T, hno _ (by simp), .inr ⟨d, _, upd_same, by rw [upd_ne hn]; exact upd_same, by simp, ?_⟩⟩
    have := k d hd hn
    rw [upd_comm hn.symm, upd_upd]
    exact this
end Dl
end

section
set_option Elab.async false
set_option linter.all false
set_option maxRecDepth 100000
set_option maxHeartbeats 1000000
/-! D35: own exceptions are raised. -/
namespace Dl
open PySem PySem.Spec PyProof.Rows L2
section
variable {T : Pg} {ad : Ad} {b : List Nat} {W : WX} {X : Cx} {K : PySem.W.Frag} {C : List Nat → Nat → List D → Sto → R D}
variable {s : L2.St} {e : Env} {S : Sto} {H : Hp} {mu : List Addr} {nu : Addr → Prop}
theorem RepL.append {vs us : List V} {ds es : List D} (r : RepL T ad H mu nu vs ds) (q : RepL T ad H mu nu us es) : RepL T ad H mu nu (vs ++ us) (ds ++ es) := by
  induction vs generalizing ds with
  | nil => cases r; exact q
  | cons v vs ih => cases r with | cons a t => exact .cons a (ih t)
theorem RepL.rev {vs : List V} {ds : List D} (r : RepL T ad H mu nu vs ds) : RepL T ad H mu nu vs.reverse ds.reverse := by
  induction vs generalizing ds with
  | nil => cases r; exact .nil
  | cons v vs ih =>
    cases r with
    | cons a t =>
      rw [List.reverse_cons, List.reverse_cons]
      exact (ih t).append (.cons a .nil)
theorem raise_ok {c : Nat} {es : List E} {fs : List Str} (hfs : fnm T ad c = fs.reverse) (hfew : fs.length ≤ 1000) : ∀ D' s H, tX T ad b W (exec T C b (.raise c es)) D' s H →
    tMkO (ad.cl c) (spI K (ad.cl c) fs) [] (tA T ad b W (evs T C b es)) s H fun cls d H' => W cls d s H' := fun D' s H h => by
  obtain ⟨mu, nu, e, S, st, p⟩ := h
  rw [exec] at p
  refine tA_bindSE st p fun vs ds S1 H1 mu1 nu1 fp he x1 st1 ro ow fr p1 => ?_
  cases hk : T.cs[c]? with
  | none => rw [hk] at p1; exact p1.elim
  | some k =>
    rw [hk] at p1
    dsimp only at p1
    split at p1
    case isFalse => exact p1.elim
    rename_i hh
    have hl : vs.length = fs.length := by
      rw [ro.length, hh.2]
      have := congrArg List.length hfs
      rw [fnm_of hk, List.length_map, List.length_reverse] at this
      exact this
    obtain ⟨x2, st2, rl⟩ := land x1 st st1 ro fr
    refine ⟨by omega, fun a ha => ⟨a, vs, by rw [List.append_nil], hl, upd_same, fun d hd hn => ?_⟩⟩
    have hd1 : H1 d = none := by rw [upd_ne hn] at hd; exact hd
    refine ⟨rfl, d, _, upd_same, by rw [upd_ne hn]; exact upd_same, hd1, ?_⟩
    have hH : upd (del (upd (upd (upd H1 a (exo a (ad.cl c) none)) d (exd d (fs.reverse.zip vs.reverse))) a (exo a (ad.cl c) (some d))) a) d (.xd (fs.reverse.zip vs.reverse)) = upd H1 d (.xd (fs.reverse.zip vs.reverse)) := by
      funext y
      by_cases h1 : y = d
      · subst h1; rw [upd_same, upd_same]
      · rw [upd_ne h1, upd_ne h1]
        by_cases h2 : y = a
        · subst h2; rw [del_same, ha]
        · rw [del_ne h2, upd_ne h2, upd_ne h1, upd_ne h2]
    rw [hH]
    have nd : ¬ less nu1 fp d := fun z => by
      obtain ⟨o, q⟩ := st1.trk d z.1
      rw [hd1] at q
      cases q
    refine p1 s (upd H1 d (.xd (fs.reverse.zip vs.reverse))) mu1 (less nu1 fp) d vs.reverse (x2.trans (new_stp hd1 _ (fun a z => .inl z) fun a z => z)) (st2.made hd1 _ (fun a z => .inl z) fun a z => z) ((rl.rev).keeps (new_kpO hd1 _ fun a z => .inl z).toKp) nd ?_
    rw [upd_same, hfs]
/-- the __init__, as a def -/
theorem init_fn {CX : CXT} {P : Program} {w : World} {mg : Str → Option Value} {base : Heap} {f D BA : Addr} {B name qual : Str} {params : Arguments} {body : List Stmt} {scope : Scope} {dV kV doc pm cdv ct oc : Value} {an od : Option Addr}
    {osl : Array (Option Value)} {ps fs : List Str} (lk : K.lookup f = some ⟨oc, od, .func (PySem.W.fnOf name qual params body scope dV kV doc pm an cdv ct), osl⟩) (hcd : PySem.W.codeIn K cdv qual = true) (Sc : FnScope ps ps scope)
    (hi : InitB body B ps fs) (hl : ps.length = fs.length + 1) (hB : scope.names.lookup B = some .globalImplicit) (hm : mg B = some (.ref BA)) (hdb : (B == ("__debug__" : Str)) = false) (ib : IniB K BA) (To : OexC K D) (hno : ∀ f, f ∈ fs → PySem.W.findIn K (.ref D) f = some none)
    (hps : ∀ x, x ∈ ps → (x == ("__debug__" : Str)) = false ∧ (x == ("__classdict__" : Str)) = false) :
    FnOk P w K mg base CX 1 f (PySem.W.fnOf name qual params body scope dV kV doc pm an cdv ct) ps (spI K D fs) := by
  refine fn_of lk hcd Sc (fun vs H Q E h => ?_) fun A outer s H vs Q E hr h => ?_
  · obtain ⟨a, ys, rfl, h1, _⟩ := h
    rw [List.length_cons, h1, hl]
  · obtain ⟨a, ys, rfl, h1, h2, h3⟩ := h
    refine init_body (X := cxOf CX P w K mg base ps qual scope f cdv A outer s H E) hi hB hm hdb ib To hno (fun i x hx => ?_) (a := a) (ys := ys) (fun i v hv => ?_) h1 h2 fun d hd hn => h3 d hd hn
    · have hm := List.mem_of_getElem? hx
      exact ⟨hx, (Sc.par x hm).elim .inl fun z => .inr (.inl z), (hps x hm).1, (hps x hm).2⟩
    · unfold L2.start
      rw [List.getElem?_append_left (by rw [List.length_map]; exact (List.getElem?_eq_some_iff.mp hv).1), List.getElem?_map, hv]
      rfl
end
end Dl
end

section
set_option Elab.async false
set_option linter.all false
set_option maxRecDepth 100000
set_option maxHeartbeats 1000000
/-! D36: try, its clauses with names. -/
namespace Dl
open PySem PySem.Spec PyProof.Rows L2
/-- the ends behind a suite: the name in the slot i goes -/
def gone (i : Nat) (D : Ends) : Ends := { nx := fun σ H => D.nx (σ.set i none) H, rt := D.rt, bk := fun σ H => D.bk (σ.set i none) H, ct := fun σ H => D.ct (σ.set i none) H }
/-- a clause: its class, its name's slot, its suite's reading -/
structure Clz where
  c : Value
  i : Nat
  ts : Addr → Value → Option Addr → TS
/-- what the clauses wish of an exception -/
def wN (K : PySem.W.Frag) (Wo : WX) (D : Ends) : List Clz → WX
  | [] => Wo
  | z :: r => fun cls d σ H => ∃ b, PySem.W.exmOne K cls z.c = some b ∧ (b = true → ∀ a, H a = none → z.ts a cls d (gone z.i D) (σ.set z.i (some (.ref a))) H) ∧ (b = false → wN K Wo D r cls d σ H)
inductive HsN (X : Cx) : List ExceptHandler → List Clz → Prop
  | nil : HsN X [] []
  | cons {x n : Str} {z : Clz} {s0 : Stmt} {suite : List Stmt} {p q : Pos} {hs : List ExceptHandler} {l : List Clz} : Names X x z.c → X.N[z.i]? = some n → X.env.kindOf n = some .local →
      (∀ (a : Addr) (oe : Obj) (cls : Value) (d : Option Addr) (pn : List (Addr × Obj)), Zc cls d oe → (∃ vs, oe.data = .fields vs) → PSs (X.suite a ((a, oe) :: pn)) (s0 :: suite) (z.ts a cls d)) → HsN X hs l → HsN X (.ExceptHandler (some (.Name x p)) (some n) (s0 :: suite) q :: hs) (z :: l)
section
variable {X : Cx} {pins : List (Addr × Obj)} {σ : L2.St} {H : Hp} {s : Shared}
/-- the end of a suite -/
theorem suite_end {a : Addr} {oe : Obj} {i : Nat} {n : Str} {q : Pos} {D : Ends} {fl : Flow} {E : Value → Shared → Prop} (ok : X.Ok) (hN : X.N.Nodup) (hi : X.N[i]? = some n) (hl : X.env.kindOf n = some .local) (h : SP (X.suite a ((a, oe) :: (X.pn ++ pins))) [] (gone i D) fl s) :
    wpAny (model X.prog X.w) X.A (do bindName X.env n .none; unbindBehindTheSuite X.env n q) (fun _ s1 => SP X pins D fl s1) E s := by
  have go : ∀ {σ6 : L2.St} {H6 : Hp}, Inv (X.suite a ((a, oe) :: (X.pn ++ pins))) [] σ6 H6 s → (∀ s1, Inv X pins (σ6.set i none) H6 s1 → SP X pins D fl s1) → wpAny (model X.prog X.w) X.A (do bindName X.env n .none; unbindBehindTheSuite X.env n q) (fun _ s1 => SP X pins D fl s1) E s :=
    fun {σ6 H6} J k => gone_ok (J.unsuite ok) hN hi hl k
  cases fl with
  | next => exact let ⟨_, _, J, w⟩ := h; go J fun s1 I => ⟨_, _, I, w⟩
  | brk => exact let ⟨_, _, J, w⟩ := h; go J fun s1 I => ⟨_, _, I, w⟩
  | cont => exact let ⟨_, _, J, w⟩ := h; go J fun s1 I => ⟨_, _, I, w⟩
  | ret u => exact let ⟨_, _, _, J, r, w⟩ := h; go J fun s1 I => ⟨_, _, _, I, r, w⟩
/-- a caught exception meets the clauses -/
theorem meets {B : Heap} {sI s1 : Shared} {h3 : Heap} {a : Addr} {cls : Value} {d : Option Addr} {Wo : WX} {D : Ends} (ok : X.Ok) (hs : X.stack = X.env :: X.outer) (hf : X.env.frame = some X.env.locals) (hN : X.N.Nodup) (tk : Takes X Wo)
    (J0 : ∃ pins', Inv X pins' σ H sI) (J : Inv X pins σ H sI) (nb : ∀ b o, sI.heap.get? b = some o → b ∉ frs X.stack → B.get? b = some o) (up : sI.heap.UpToSlots h3) (os : s1.os = sI.os) (ag : AllBare s1.gens) (na : H a = none)
    (fl : HandSPX.FlyingZ B (X.env :: X.outer) a (Zc cls d) h3) {hds : List ExceptHandler} {l : List Clz} (hk : HsN X hds l) (w : wN X.K Wo D l cls d σ H) :
    wpAny (model X.prog X.w) X.A (handleBy (.ref a) X.env hds) (SP X pins D) X.xe { s1 with heap := h3 } := by
  obtain ⟨oe, vs, he, hz, hd⟩ := fl.there
  have out : a ∉ frs (X.env :: X.outer) := fun hm => by
    obtain ⟨_, o', e', hnf⟩ := fl.2.2.1.mem hm
    rw [he] at e'
    cases e'
    exact hnf _ hd
  have nL : a ≠ X.env.locals := fun z => out (List.mem_filterMap.mpr ⟨X.env, List.mem_cons_self, by rw [hf, z]⟩)
  have nF : a ∉ X.fs := fun hm => by
    obtain ⟨e, hm, q⟩ := List.mem_filterMap.mp hm
    exact out (List.mem_filterMap.mpr ⟨e, List.mem_cons_of_mem _ hm, q⟩)
  have J3 : Inv X pins σ H { s1 with heap := h3 } := J.landed nb fl.1 up os ag
  induction hk with
  | nil =>
    refine wpAny_handleBy_nil ?_
    obtain ⟨_, _, _, oe', vs', Tb, _, _, g1, _, g3, g4, _⟩ := id fl
    unfold PySem.passOn
    refine wpAny_bind (wpAny_field g1 g3 g4 ?_)
    rw [if_neg (show ¬ ((Value.ref Tb == Value.none) = true) from by simp)]
    have on : wpAny (model X.prog X.w) X.A (setFlight (.ref a) X.env.frame) (fun _ s4 => wpAny (model X.prog X.w) X.A (throw (.ref a) : Sem Flow) (SP X pins D) X.xe s4) X.xe { s1 with heap := h3 } := by
      obtain ⟨pins', Jp⟩ := J0
      rw [hf]
      exact HandSPX.setFlight_upZ fl fun h4 held up4 => wpAny_throw (tk _ _ ⟨a, B, sI, pins', σ, H, cls, d, rfl, Jp, nb, up.trans up4, .inr (.inr (by rw [hs]; exact held)), na, os, ag, w⟩)
    first
      | exact wpAny_bind (wpAny_pure (wpAny_bind on))
      | exact wpAny_bind on
  | @cons x n z s0 suite p q hds l hc hi hl hsu r ih =>
    obtain ⟨b, hb, yes, no⟩ := w
    have S3 := J3.suite he hd na nL nF
    refine wpAny_handleBy_cons (codeAny_handlers_test ?_) (fun z => by cases z)
    have ty : PySem.W.Looks (model X.prog X.w) h3 (typeOf (.ref a)) cls := fun A Q E s k g => wpAny_typeOf_ref (k _ _ he) (by rw [hz.1]; exact g)
    have named : ∀ {Q : Value → Shared → Prop} {E : Value → Shared → Prop}, Q z.c { s1 with heap := h3 } → wpAny (model X.prog X.w) (X.A.mark (some (.ref a))) (eval (.Name x p) X.env) Q E { s1 with heap := h3 } := fun {Q E} g => by
      obtain ⟨g1, g2, g3 | ⟨g3, g4, g5⟩⟩ := hc
      · exact ld_glob (X := X.suite a ((a, oe) :: (X.pn ++ pins))) S3 g1 g3 g g2
      · exact ld_blt (X := X.suite a ((a, oe) :: (X.pn ++ pins))) S3 g1 g3 g4 g g5 g2
    refine named ((PySem.W.exm_one (M := model X.prog X.w) J3.kIn ty hb).here ?_)
    cases b with
    | false => exact ih (no rfl)
    | true =>
      refine codeAny_handlers_suite_as (HandSPX.lands_againZ fl fun h4 fl4 up4 => ?_)
      have J4 : Inv X pins σ H { s1 with heap := h4 } := J.landed nb fl4.1 (up.trans up4) os ag
      obtain ⟨oe4, vs4, he4, hz4, hd4⟩ := fl4.there
      refine store_ok (X := X.suite a ((a, oe4) :: (X.pn ++ pins))) (v := .ref a) (J4.suite he4 hd4 na nL nF) hN hi (.inl hl) rfl (fun s5 S5 => ?_) (.inr hl)
      refine wpAny_mono ((hsu a oe4 cls d (X.pn ++ pins) hz4 ⟨_, hd4⟩).run [] s5 _ H _ S5 (yes rfl a na)) (fun f s6 hsp => ?_) (fun _ _ z => False.elim z)
      exact suite_end ok hN hi hl hsp
end
section
variable {X : Cx} {body : List Stmt} {h0 : ExceptHandler} {hds : List ExceptHandler} {l : List Clz} {pos : Pos} {tb : WX → TS} {Wo : WX}
theorem ps_tryN (hs : X.stack = X.env :: X.outer) (hf : X.env.frame = some X.env.locals) (hN : X.N.Nodup) (tk : Takes X Wo)
    (hb : ∀ (W : WX) (pn : List (Addr × Obj)) (xe : Value → Shared → Prop), Takes (X.tr pn xe) W → PassesOwn (model X.prog X.w) X.A X.env xe → PSs (X.tr pn xe) body (tb W)) (hh : HsN X (h0 :: hds) l) : PS X (.Try body (h0 :: hds) [] [] pos) (fun D σ H => tb (wN X.K Wo D l) D σ H) := by
  refine ⟨fun pins s σ H D I h => ?_⟩
  have ok := I.ok
  have hfr : X.A.frames = some (X.env :: X.outer) := by rw [ok.frames, hs]
  refine wpAny_Try_except (wpAny_mono ((hb (wN X.K Wo D l) (X.pn ++ pins) (fun e s1 => wpAny (model X.prog X.w) X.A (noteFrame e X.env) (fun _ s2 => wpAny (model X.prog X.w) X.A (setFlight e none) (fun _ s3 =>
    wpAny (model X.prog X.w) X.A (handleBy e X.env (h0 :: hds)) (SP X pins D) X.xe s3) X.xe s2) X.xe s1) (fun u s' xx => ?_) PassesOwn.looking).run [] s σ H D (I.toTry _) h) (fun f s1 hsp => ?_) fun e s1 he => he)
  · obtain ⟨a, B, sI, pins', σ', H', cls, d, rfl, J', nb, up, sky, na, os, ag, w⟩ := xx
    have sky' : Sky B (X.env :: X.outer) a (Zc cls d) X.env.locals s'.heap := by rw [← hs]; exact sky
    have J : Inv X pins σ' H' sI := J'.ofTry ok
    show wpAny (model X.prog X.w) X.A (noteFrame (.ref a) X.env) _ _ _
    exact Sky.land Zc.steady hfr hf sky' fun h3 fl up3 => meets ok hs hf hN tk ⟨pins, J⟩ J nb (up.trans up3) os ag na fl hh w
  · cases f with
    | next => exact let ⟨σ', H', J, q⟩ := hsp; wpAny_execs_nil ⟨σ', H', J.ofTry ok, q⟩
    | brk => exact let ⟨σ', H', J, q⟩ := hsp; ⟨σ', H', J.ofTry ok, q⟩
    | cont => exact let ⟨σ', H', J, q⟩ := hsp; ⟨σ', H', J.ofTry ok, q⟩
    | ret u => exact let ⟨v, σ', H', J, r, q⟩ := hsp; ⟨v, σ', H', J.ofTry ok, r, q⟩
end
end Dl
end

section
set_option Elab.async false
set_option linter.all false
set_option maxRecDepth 100000
set_option maxHeartbeats 1000000
/-! D37: try. -/
namespace Dl
open PySem PySem.Spec PyProof.Rows L2
def Ad.wx (ad : Ad) (x : Option (Addr × Addr × Nat × Nat)) : Ad := { ad with xa := x }
section
variable {T : Pg} {ad : Ad} {b : List Nat} {W : WX} {X : Cx} {K : PySem.W.Frag} {C : List Nat → Nat → List D → Sto → R D}
variable {s : L2.St} {e : Env} {S : Sto} {H : Hp} {mu : List Addr} {nu : Addr → Prop}
mutual
theorem Rep.wx (x : Option (Addr × Addr × Nat × Nat)) : ∀ {v : V} (d : D), Rep T ad H mu nu v d → Rep T (ad.wx x) H mu nu v d
  | _, .non, h => by cases h; exact .non
  | _, .bl _, h => by cases h; exact .bl _
  | _, .int _, h => by cases h; exact .int _
  | _, .str _, h => by cases h; exact .str _
  | _, .tup ds, h => by cases h with | tup n e r => exact .tup n e (RepL.wx x ds r)
  | _, .lst o ds, h => by cases h with | lst n e r => exact .lst n e (RepL.wx x ds r)
  | _, .dic o ks ds, h => by cases h with | dic n e r => exact .dic n e (RepL.wx x ds r)
  | _, .set _ _, h => by cases h
  | _, .ins o c ds, h => by cases h with | ins hI n e l r => exact .ins (ad := ad.wx x) hI n e l (RepL.wx x ds r)
  | _, .ref _, h => by cases h with | ref e => exact .ref e
  | _, .fn k, h => by cases h; exact Rep.fn (ad := ad.wx x) k
  | _, .cls _, h => by cases h
  | _, .exc _ _, h => by cases h
theorem RepL.wx (x : Option (Addr × Addr × Nat × Nat)) : ∀ {vs : List V} (ds : List D), RepL T ad H mu nu vs ds → RepL T (ad.wx x) H mu nu vs ds
  | _, [], h => by cases h; exact .nil
  | _, d :: ds, h => by cases h with | cons h1 h2 => exact .cons (Rep.wx x d h1) (RepL.wx x ds h2)
end
mutual
theorem RepO.wx (x : Option (Addr × Addr × Nat × Nat)) : ∀ {v : V} (d : D) {fp : List Addr}, RepO T ad H mu nu v d fp → RepO T (ad.wx x) H mu nu v d fp
  | _, .non, _, h => by cases h with | of r => exact .of (r.wx x)
  | _, .bl _, _, h => by cases h with | of r => exact .of (r.wx x)
  | _, .int _, _, h => by cases h with | of r => exact .of (r.wx x)
  | _, .str _, _, h => by cases h with | of r => exact .of (r.wx x)
  | _, .tup ds, _, h => by
    cases h with
    | of r => exact .of (r.wx x)
    | tup n e r => exact .tup n e (RepOL.wx x ds r)
  | _, .lst o ds, _, h => by
    cases h with
    | of r => exact .of (r.wx x)
    | lst n e r => exact .lst n e (RepOL.wx x ds r)
  | _, .dic o ks ds, _, h => by
    cases h with
    | of r => exact .of (r.wx x)
    | dic n e r => exact .dic n e (RepOL.wx x ds r)
  | _, .set _ _, _, h => by cases h with | of r => exact .of (r.wx x)
  | _, .ins o c ds, _, h => by
    cases h with
    | of r => exact .of (r.wx x)
    | ins hI n e l r => exact .ins (ad := ad.wx x) hI n e l (RepOL.wx x ds r)
  | _, .ref _, _, h => by cases h with | of r => exact .of (r.wx x)
  | _, .fn _, _, h => by cases h with | of r => exact .of (r.wx x)
  | _, .cls _, _, h => by cases h with | of r => exact .of (r.wx x)
  | _, .exc _ _, _, h => by cases h with | of r => exact .of (r.wx x)
theorem RepOL.wx (x : Option (Addr × Addr × Nat × Nat)) : ∀ {vs : List V} (ds : List D) {fp : List Addr}, RepOL T ad H mu nu vs ds fp → RepOL T (ad.wx x) H mu nu vs ds fp
  | _, [], _, h => by cases h; exact .nil
  | _, d :: ds, _, h => by cases h with | cons h1 h2 => exact .cons (RepO.wx x d h1) (RepOL.wx x ds h2)
end
theorem RepC.wx (x : Option (Addr × Addr × Nat × Nat)) {a : Addr} {c : D} (h : RepC T ad H mu nu a c) : RepC T (ad.wx x) H mu nu a c := by
  cases h with
  | lst q r => exact .lst q (r.wx x)
  | dic q r => exact .dic q (r.wx x)
  | ins hI q l r => exact .ins (ad := ad.wx x) hI q l (r.wx x)
theorem Ad.wx_wx (x : Option (Addr × Addr × Nat × Nat)) (h : ad.xa = none) : (ad.wx x).wx none = ad := by
  obtain ⟨a, c, n, y⟩ := ad
  cases h
  rfl
/-- a clause is entered -/
theorem Sta.enterX {a dx : Addr} {c i : Nat} {Vs : List V} {xs : List D} (hx : ad.xa = none) (st : Sta T ad b H mu nu s e S) (rl : RepL T ad H mu nu Vs xs) (nx : ¬ nu dx) (ha : H dx = some (.xd ((fnm T ad c).zip Vs))) : Sta T (ad.wx (some (a, dx, c, i))) b H mu nu (s.set i (some (.ref a))) (e.set i (some (.exc c xs))) S := by
  refine ⟨by rw [List.length_set, List.length_set]; exact st.len, fun j d' h => ?_, st.num, fun n a c h1 h2 => (st.cel n a c h1 h2).wx _, st.nd, st.sub, st.trk, st.old, st.bse⟩
  rw [set_get] at h ⊢
  split at h
  · rename_i hh
    cases h
    obtain ⟨rfl, hlt⟩ := hh
    exact ⟨_, by rw [if_pos ⟨rfl, st.len ▸ hlt⟩], .exc (ad := ad.wx (some (a, dx, c, _))) rfl nx ha (rl.wx _)⟩
  · rename_i hh
    obtain ⟨w, h1, h2⟩ := st.env j d' h
    refine ⟨w, by rw [if_neg fun z => hh ⟨z.1, by rw [st.len]; exact z.2⟩]; exact h1, ?_⟩
    cases h2 with
    | of r => exact .of (r.wx _)
    | exc hy => rw [hx] at hy; cases hy
/-- a clause is left -/
theorem Sta.leaveX {a dx : Addr} {c i : Nat} (hx : ad.xa = none) (st : Sta T (ad.wx (some (a, dx, c, i))) b H mu nu s e S) : Sta T ad b H mu nu (s.set i none) (e.set i none) S := by
  refine ⟨by rw [List.length_set, List.length_set]; exact st.len, fun j d' h => ?_, st.num, fun n a c h1 h2 => ?_, st.nd, st.sub, st.trk, st.old, st.bse⟩
  · rw [set_get] at h ⊢
    split at h
    · cases h
    · rename_i hh
      obtain ⟨w, h1, h2⟩ := st.env j d' h
      refine ⟨w, by rw [if_neg fun z => hh ⟨z.1, by rw [st.len]; exact z.2⟩]; exact h1, ?_⟩
      cases h2 with
      | of r =>
        have := r.wx (none : Option (Addr × Addr × Nat × Nat))
        rw [Ad.wx_wx _ hx] at this
        exact .of this
      | exc hy =>
        cases hy
        exact absurd ⟨rfl, (List.getElem?_eq_some_iff.mp h).1⟩ hh
  · have := (st.cel n a c h1 h2).wx (none : Option (Addr × Addr × Nat × Nat))
    rw [Ad.wx_wx _ hx] at this
    exact this
/-- what the classes say of one another -/
structure Exf (T : Pg) (ad : Ad) (K : PySem.W.Frag) : Prop where
  exm : ∀ (c h : Nat) (k kh : Cl), T.cs[c]? = some k → k.exc = true → T.cs[h]? = some kh → PySem.W.exmOne K (.ref (ad.cl c)) (.ref (ad.cl h)) = some (k.sup.contains h)
def clz (T : Pg) (ad : Ad) (b : List Nat) (C : List Nat → Nat → List D → Sto → R D) : Dl.H → Clz
  | .mk h i sb => ⟨.ref (ad.cl h), i, fun a cls d D' σ H => ∃ c dx k, T.cs[c]? = some k ∧ k.exc = true ∧ cls = .ref (ad.cl c) ∧ d = some dx ∧ tX T (ad.wx (some (a, dx, c, i))) b noX (execs T C b sb) D' σ H⟩
def hcl : Dl.H → Nat
  | .mk h _ _ => h
theorem Sst.un {i : Nat} {a dx : Addr} {c : Nat} {r : RS} {D' : Ends} (hx : ad.xa = none) (p : Sst T ad b W (unName i r) H mu nu D') : Sst T (ad.wx (some (a, dx, c, i))) b noX r H mu nu (gone i D') := by
  cases r with
  | nx e2 S2 => exact fun s2 H2 mu2 nu2 x2 st2 => p _ H2 mu2 nu2 x2 (st2.leaveX hx)
  | bk e2 S2 => exact fun s2 H2 mu2 nu2 x2 st2 => p _ H2 mu2 nu2 x2 (st2.leaveX hx)
  | ct e2 S2 => exact fun s2 H2 mu2 nu2 x2 st2 => p _ H2 mu2 nu2 x2 (st2.leaveX hx)
  | rt d S2 =>
    intro v s2 e2 H2 mu2 nu2 fp x2 st2 ro ow fr
    have r2 := ro.wx (none : Option (Addr × Addr × Nat × Nat))
    rw [Ad.wx_wx _ hx] at r2
    exact p v _ _ H2 mu2 nu2 fp x2 (st2.leaveX hx) r2 ow fr
  | ex c2 vs2 e2 S2 => exact p.elim
  | er => exact p.elim
theorem handle_ok (hx : ad.xa = none) (xf : Exf T ad K) {D' : Ends} {c : Nat} {xs : List D} : ∀ {hs : List Dl.H}, (∀ h, h ∈ hs → ∃ k, T.cs[hcl h]? = some k) → Sst T ad b W (handle T C b hs c xs e S) H mu nu D' →
    ∀ s H' mu' nu' dx Vs, Stp H mu nu H' mu' nu' → Sta T ad b H' mu' nu' s e S → RepL T ad H' mu' nu' Vs xs → ¬ nu' dx → H' dx = some (.xd ((fnm T ad c).zip Vs)) → wN K W D' (hs.map (clz T ad b C)) (.ref (ad.cl c)) (some dx) s H'
  | [], _, p => by
    rw [handle] at p
    exact p
  | .mk h i sb :: hs, hk, p => by
    intro s H' mu' nu' dx Vs x st rl nx ha
    rw [handle] at p
    obtain ⟨kh, hkh⟩ := hk _ List.mem_cons_self
    unfold subC at p
    cases hc : T.cs[c]? with
    | none => rw [hc] at p; exact p.elim
    | some k =>
      rw [hc] at p
      dsimp only at p
      by_cases hexc : k.exc = true
      · rw [if_pos hexc] at p
        refine ⟨k.sup.contains h, xf.exm c h k kh hc hexc hkh, fun hb a na => ?_, fun hb => ?_⟩
        · rw [hb] at p
          have p' : Sst T ad b W (unName i (execs T C b sb (e.set i (some (.exc c xs))) S)) H mu nu D' := p
          exact ⟨c, dx, k, hc, hexc, rfl, rfl, mu', nu', _, S, st.enterX hx rl nx ha, (p'.step x).un hx⟩
        · rw [hb] at p
          exact handle_ok hx xf (fun h m => hk h (List.mem_cons_of_mem _ m)) p s H' mu' nu' dx Vs x st rl nx ha
      · rw [if_neg hexc] at p
        exact p.elim
theorem try_ok (hx : ad.xa = none) (xf : Exf T ad K) {body : List Dl.S} {hs : List Dl.H} (hk : ∀ h, h ∈ hs → ∃ k, T.cs[hcl h]? = some k) : ∀ D' s H, tX T ad b W (exec T C b (.try_ body hs)) D' s H → tX T ad b (wN K W D' (hs.map (clz T ad b C))) (execs T C b body) D' s H := fun D' s H h => by
  obtain ⟨mu, nu, e, S, st, p⟩ := h
  rw [exec] at p
  refine ⟨mu, nu, e, S, st, ?_⟩
  cases hb : execs T C b body e S with
  | nx e2 S2 => rw [hb] at p; exact p
  | bk e2 S2 => rw [hb] at p; exact p
  | ct e2 S2 => rw [hb] at p; exact p
  | rt d S2 => rw [hb] at p; exact p
  | er => rw [hb] at p; exact p.elim
  | ex c xs e2 S2 =>
    rw [hb] at p
    exact handle_ok hx xf hk p
end
end Dl
end

section
set_option Elab.async false
set_option linter.all false
set_option maxRecDepth 100000
set_option maxHeartbeats 1000000
/-! D38: what the text's forms say. -/
namespace Dl
open PySem PySem.Spec PyProof.Rows L2
abbrev Ex := PySem.Expr
/-- no star ahead of it -/
def nostX : Ex → Bool
  | .Starred _ _ => false
  | _ => true
theorem star_cons {a : Ex} {as : List Ex} {env : PySem.Env} (h : nostX a = true) : starEach (a :: as) env = (false, eval a env) :: starEach as env := by
  cases a <;> first | rfl | cases h
theorem star_none {env : PySem.Env} {pos : Pos} : ∀ {as : List Ex}, as.all nostX = true → (backTo pos (starEach as env)).any (·.1) = false
  | [], _ => rfl
  | a :: as, h => by
    rw [List.all_cons, Bool.and_eq_true] at h
    rw [star_cons h.1]
    show (false || (backTo pos (starEach as env)).any (·.1)) = false
    rw [star_none h.2]
    rfl
theorem star_all {env : PySem.Env} {pos : Pos} {as : List Ex} (h : as.all nostX = true) : (backTo pos (starEach as env)).all (fun x => !x.1) = true := by
  have := star_none (env := env) (pos := pos) h
  rw [List.all_eq_true]
  intro x hx
  cases hh : x.1 with
  | false => rfl
  | true =>
    rw [List.any_eq_false] at this
    exact absurd hh (this x hx)
theorem few_ok {env : PySem.Env} {pos : Pos} {as : List Ex} (h : as.all nostX = true) (hl : decide (as.length < 30) = true) : ((backTo pos (starEach as env)).all (fun x => !x.1) && (backToKw pos (keywordEach [] env)).all (fun x => x.1.isSome)
      && decide (as.length + ([] : List Keyword).length + (if ([] : List Keyword).isEmpty then 0 else 1) < 30)) = true := by
  rw [star_all h]
  exact hl
/-- its test is its value's truth -/
def plainT : Ex → Bool
  | .UnaryOp .Not _ _ => false
  | .BoolOp _ _ _ => false
  | .IfExp _ _ _ _ => false
  | .Compare _ _ _ _ => false
  | _ => true
theorem test_plain {a : Ex} {env : PySem.Env} (h : plainT a = true) : ∀ whole, isTrue a env whole = (do let v ← whole; standAt a.pos; holding [v] (truthy v)) := by
  intro whole
  cases a <;> first | rfl | (cases h; done) | skip
  rename_i op _ _
  cases op <;> first | rfl | cases h
/-- no comprehension -/
def noComp : Ex → Bool
  | .ListComp _ _ _ _ => false
  | .SetComp _ _ _ _ => false
  | .DictComp _ _ _ _ _ => false
  | _ => true
theorem swaps_no {a : Ex} {t : Option Ex} {l : Nat} {env : PySem.Env} (h : noComp a = true) : swapsWith a t l env = pure false := by
  unfold swapsWith
  split
  · rename_i sc hh
    cases a <;> first | (cases h; done) | (cases hh; done)
  · rfl
theorem sole_no {a t : Ex} {l : Nat} {env : PySem.Env} (h : noComp a = true) : swapsWithSole [t] a l env = pure false := swaps_no h
/-- no pair is stored -/
def noTup : Ex → Bool
  | .Tuple _ _ _ => false
  | _ => true
def noList : Ex → Bool
  | .List _ _ => false
  | _ => true
theorem stores_no {a t : Ex} {env : PySem.Env} (h : (noTup t && noList t || noTup a) = true) : swappedStores [t] a env = pure none := by
  unfold swappedStores
  split
  · rename_i ts vs hh
    exfalso
    revert hh h
    cases t <;> cases a <;> first | (intro h _; cases h; done) | (intro _ hh; cases hh; done)
  · rfl
/-- no slice -/
def noSlc : Ex → Bool
  | .Slice _ _ none _ => false
  | _ => true
theorem ix_plain {a : Ex} (h : noSlc a = true) : PlainIx a := by
  intro o i
  cases a <;> first | rfl | skip
  rename_i x y z w
  cases z with
  | none => cases h
  | some _ => rfl
/-- no set display -/
def noSet : Ex → Bool
  | .Set _ _ _ => false
  | _ => true
theorem fold_no {a : Ex} {env : PySem.Env} (h : noSet a = true) : ∀ x, foldedSetIterable a env x = pure x := by
  intro x
  unfold foldedSetIterable
  split
  · cases h
  · rfl
theorem mark_no {a : Ex} (o : CmpOp) (h : noSet a = true) : behindInMarks o a = false := by
  cases a <;> first | rfl | cases h
theorem asg_cons {a : Ex} {as : List Ex} {env : PySem.Env} (h : nostX a = true) : assignEach (a :: as) env = (false, assign a env) :: assignEach as env := by
  cases a <;> first | rfl | cases h
theorem asg_len {env : PySem.Env} : ∀ {as : List Ex}, as.all nostX = true → (assignEach as env).length = as.length
  | [], _ => rfl
  | a :: as, h => by
    rw [List.all_cons, Bool.and_eq_true] at h
    rw [asg_cons h.1, List.length_cons, List.length_cons, asg_len h.2]
theorem asg_none {env : PySem.Env} : ∀ {as : List Ex}, as.all nostX = true → (assignEach as env).findIdx? (·.1) = none
  | [], _ => rfl
  | a :: as, h => by
    rw [List.all_cons, Bool.and_eq_true] at h
    rw [asg_cons h.1, List.findIdx?_cons, asg_none h.2]
    rfl
/-- keywords, their names -/
def kwN : List Keyword → Option (List Str)
  | [] => some []
  | ⟨some n, _, _⟩ :: r => (kwN r).map (n :: ·)
  | ⟨none, _, _⟩ :: _ => none
theorem kw_all {env : PySem.Env} {pos : Pos} : ∀ {kws : List Keyword} {ks : List Str}, kwN kws = some ks → (backToKw pos (keywordEach kws env)).all (·.1.isSome) = true ∧ (backToKw pos (keywordEach kws env)).filterMap (·.1) = ks ∧ (backToKw pos (keywordEach kws env)).any (·.1.isNone) = false
  | [], ks, h => by cases h; exact ⟨rfl, rfl, rfl⟩
  | ⟨none, v, p⟩ :: r, ks, h => by cases h
  | ⟨some n, v, p⟩ :: r, ks, h => by
    cases hr : kwN r with
    | none => rw [kwN, hr] at h; cases h
    | some ls =>
      rw [kwN, hr] at h
      cases h
      obtain ⟨h1, h2, h3⟩ := kw_all (env := env) (pos := pos) hr
      have e : backToKw pos (keywordEach (⟨some n, v, p⟩ :: r) env) = (some n, do let x ← eval v env; standAt pos; pure x) :: backToKw pos (keywordEach r env) := rfl
      rw [e]
      refine ⟨?_, ?_, ?_⟩
      · rw [List.all_cons, h1]; rfl
      · rw [List.filterMap_cons, h2]
      · rw [List.any_cons, h3]; rfl
end Dl
end

section
set_option Elab.async false
set_option linter.all false
set_option maxRecDepth 100000
set_option maxHeartbeats 1000000
/-! D39: does an L text say what the program's text says? -/
namespace Dl
open PySem PySem.Spec PyProof.Rows L2
/-- what the module's names are -/
structure Tb where
  /-- the defs' names, where they are the module's -/
  dn : List (Option Str)
  /-- the defs' parameters -/
  ps : List (List Str)
  /-- calls by keywords: the def, the names in the call's order, their places -/
  kw : List (Nat × List Str × List Nat)
  /-- the classes' names -/
  cn : List Str
  nums : List (Str × Int)
  /-- names that are Python's -/
  free : List Str
  /-- comb is math.comb -/
  comb : Bool
  /-- names of fields, methods -/
  nms : List Str
  /-- exceptions with an own __init__ -/
  xc : List Nat
/-- where an expression stands -/
structure Mc where
  N : List Str
  sc : PySem.Scope
  /-- .. as the text has it -/
  os : PySem.Scope
  calm : Bool
  /-- the slot of the exception that is being handled -/
  xs : Option Nat
def visB (sc : PySem.Scope) (x : Str) : Bool := match sc.names.lookup x with
  | some .local => true
  | some .cell => true
  | some .free => true
  | _ => false
def locB (m : Mc) (x : Str) : Bool := match m.sc.names.lookup x with
  | some .local => true
  | some .cell => decide (m.os.names.lookup x = some .cell)
  | _ => false
def glbB (sc : PySem.Scope) (x : Str) : Bool := (match sc.names.lookup x with
  | some .globalImplicit => true
  | _ => false) && !(x == ("__debug__" : Str)) && !(x == ("__name__" : Str))
def nmB (m : Mc) (i : Nat) (x : Str) : Bool := decide (m.N[i]? = some x) && visB m.sc x && !(x == ("__debug__" : Str)) && !(x == ("__classdict__" : Str))
def primN : Prim → Str
  | .len => "len"
  | .repr => "repr"
  | .all => "all"
  | .any => "any"
  | .sum => "sum"
  | .max1 => "max"
  | .max2 => "max"
  | .min1 => "min"
  | .min2 => "min"
  | .sorted => "sorted"
  | .abs => "abs"
  | .comb => "comb"
  | .isi _ => "isinstance"
  | .list => "list"
  | .tuple => "tuple"
  | .int => "int"
  | .dict => "dict"
def isIsi : Prim → Bool
  | .isi _ => true
  | _ => false
def isComb : Prim → Bool
  | .comb => true
  | _ => false
def tyN : Ty → Str
  | .int => "int"
  | .bool => "bool"
  | .str => "str"
  | .tuple => "tuple"
  | .list => "list"
  | .dict => "dict"
  | .set => "set"
  | .none => ""
  | .cls _ => ""
def mutN : Mut → Str
  | .append => "append"
  | .pop => "pop"
  | .popAt => "pop"
def isCmp : E → Bool
  | .cmp _ _ _ => true
  | .chn _ _ _ _ _ => true
  | _ => false
section
variable (tb : Tb)
def frB (m : Mc) (x : Str) : Bool := glbB m.sc x && tb.free.contains x
def mCst (m : Mc) (d : D) (a : Ex) : Bool :=
  match a with
  | .Constant (.int j) _ _ => (match d with | .int i => decide (i = j) | _ => false)
  | .Constant (.str y) _ _ => (match d with | .str x => decide (x = y) | _ => false)
  | .Constant (.bool c) _ _ => (match d with | .bl b => decide (b = c) | _ => false)
  | .Constant .none _ _ => (match d with | .non => true | _ => false)
  | .Name x _ => (match d with | .int i => glbB m.sc x && tb.nums.contains (x, i) | _ => false)
  | _ => false
/-- a type's name -/
def mTy (m : Mc) (u : Ty) (a : Ex) : Bool :=
  match a with
  | .Name x _ => (match u with
    | .cls _ => false
    | .none => false
    | u => decide (x = tyN u) && frB tb m x)
  | _ => false
def mTys (m : Mc) : List Ty → List Ex → Bool
  | [], [] => true
  | u :: us, a :: as => mTy tb m u a && mTys m us as
  | _, _ => false
/-- the block of a comprehension -/
def relab (o sc : PySem.Scope) : PySem.Scope := { sc with names := sc.names.map fun (n, k) => if (k == .free && o.kind == .function && o.names.lookup n == some .cell) then (n, .cell) else (n, k) }
def Mc.blk (m : Mc) (sc : PySem.Scope) : Mc := { m with sc := relab m.sc sc, os := sc }
def ownP (m : Mc) (own : List Nat) : List (Str × Nat) := own.map fun i => (m.N.getD i Str.empty, i)
mutual
def mTg : Nat → Mc → Tg → Ex → Bool
  | 0, _, _, _ => false
  | n + 1, m, t, a =>
    match t with
    | .nm i => (match a with | .Name x _ => decide (m.N[i]? = some x) && locB m x | _ => false)
    | .tup ts => (match a with | .Tuple es _ _ => m.calm && es.all nostX && mTgs n m ts es | _ => false)
def mTgs : Nat → Mc → List Tg → List Ex → Bool
  | 0, _, _, _ => false
  | n + 1, m, ts, as =>
    match ts, as with
    | [], [] => true
    | t :: ts, a :: as => mTg n m t a && mTgs n m ts as
    | _, _ => false
end
mutual
def mE : Nat → Mc → E → Ex → Bool
  | 0, _, _, _ => false
  | n + 1, m, l, a =>
    match l with
    | .pl _ x => mE n m x a
    | .cst d => mCst tb m d a
    | .var i => (match a with | .Name x _ => nmB m i x && decide (m.xs ≠ some i) | _ => false)
    | .bin o x y => (match a with | .BinOp a p b _ => decide (o = p) && mE n m x a && mE n m y b | _ => false)
    | .neg x => (match a with | .UnaryOp .USub a _ => mE n m x a | _ => false)
    | .not q => (match a with | .UnaryOp .Not a _ => mQ n m q a | _ => false)
    | .and x y => (match a with
      | .BoolOp .And (a :: b :: []) _ => mE n m x a && mE n m y b
      | .BoolOp .And (a :: b :: c :: r) p => mE n m x a && mE n m y (.BoolOp .And (b :: c :: r) p)
      | _ => false)
    | .or x y => (match a with
      | .BoolOp .Or (a :: b :: []) _ => mE n m x a && mE n m y b
      | .BoolOp .Or (a :: b :: c :: r) p => mE n m x a && mE n m y (.BoolOp .Or (b :: c :: r) p)
      | _ => false)
    | .ite c x y => (match a with | .IfExp k a b _ => mQ n m c k && mE n m x a && mE n m y b | _ => false)
    | .cmp o x y => (match a with | .Compare a [p] [b] _ => decide (o = p) && noSet b && mE n m x a && mE n m y b | _ => false)
    | .chn o o2 x y z => (match a with | .Compare a [p, p2] [b, c] _ => decide (o = p) && decide (o2 = p2) && noSet c && mE n m x a && mE n m y b && mE n m z c | _ => false)
    | .tup es => (match a with | .Tuple as _ _ => mEs n m es as | _ => false)
    | .lst es => (match a with | .List as _ => mEs n m es as | _ => false)
    | .star _ => false
    | .sub x i => (match a with | .Subscript a b _ => noSlc b && mE n m x a && mE n m i b | _ => false)
    | .slc x lo hi => (match a with | .Subscript a (.Slice l h none _) _ => mE n m x a && mO n m lo l && mO n m hi h | _ => false)
    | .rev x => (match a with | .Subscript a (.Slice none none (some (.UnaryOp .USub (.Constant (.int 1) _ _) _)) _) _ => mE n m x a | _ => false)
    | .attr x f => (match a with | .Attribute a y _ => noSup a && decide (tb.nms[f]? = some y) && mE n m x a | _ => false)
    | .xat i f => (match a with | .Attribute (.Name x _) y _ => nmB m i x && decide (m.xs = some i) && decide (tb.nms[f]? = some y) | _ => false)
    | .call k es => (match a with | .Call (.Name x _) as [] _ => m.calm && decide (tb.dn[k]? = some (some x)) && glbB m.sc x && as.all nostX && mEs n m es as | _ => false)
    | .callK k es pl => (match a with
      | .Call (.Name x _) [] kws _ => (match kwN kws with
        | some ks => m.calm && decide (tb.dn[k]? = some (some x)) && glbB m.sc x && tb.kw.contains (k, ks, pl) && decide (pl.length = ks.length) && es.all nost && mEs n m es (kws.map (·.value))
        | none => false)
      | _ => false)
    | .new _ _ => false
    | .umeth _ _ _ => false
    | .prim p es => (match a with
      | .Call (.Name x _) (a1 :: as) [] _ =>
        if isIsi p then (match p, es, as with
          | .isi [u], [e1], [t] => decide (x = primN p) && frB tb m x && nost e1 && nostX a1 && mE n m e1 a1 && mTy tb m u t
          | .isi us, [e1], [.Tuple ts _ _] => decide (x = primN p) && frB tb m x && nost e1 && nostX a1 && decide (us.length ≤ 100) && mE n m e1 a1 && mTys tb m us ts
          | _, _, _ => false)
        else if isComb p then decide (x = primN p) && glbB m.sc x && tb.comb && (a1 :: as).all nostX && mEs n m es (a1 :: as)
        else decide (x = primN p) && frB tb m x && (a1 :: as).all nostX && (!primCalm p || m.calm) && mEs n m es (a1 :: as)
      | _ => false)
    | .meth .index x es => (match a with
      | .Call (.Attribute o y p) (a1 :: as) [] q => decide (y = ("index" : Str)) && noSup o && (p.endLine == q.line) && (a1 :: as).all nostX && decide ((a1 :: as).length < 30) && mE n m x o && mEs n m es (a1 :: as)
      | _ => false)
    | .mut k x es => (match a with
      | .Call (.Attribute o y p) as [] q => decide (y = mutN k) && noSup o && (p.endLine == q.line) && as.all nostX && decide (as.length < 30) && mE n m x o && mEs n m es as
      | _ => false)
    | .lc own elt gs => (match a with | .ListComp b gs' sc _ => mLc n m own elt gs b gs' sc | _ => false)
def mLc : Nat → Mc → List Nat → E → List G → Ex → List Comprehension → PySem.Scope → Bool
  | 0, _, _, _, _, _, _, _ => false
  | n + 1, m, own, elt, gs, b, gs', sc =>
    match gs, gs' with
    | [.mk t it ifs], [⟨tg, iter, ifs', 0⟩] => m.calm && blkC m.N m.sc sc (ownP m own) && (tgs t).all (fun i => own.contains i) && decide (ifs.length ≤ 1) && itn it && noSet iter &&
        mI n m it iter && mTg n (m.blk sc) t tg && mIfs n (m.blk sc) ifs ifs' && mE n (m.blk sc) elt b
    | [.mk t it ifs, .mk t1 it1 ifs1], [⟨tg, iter, ifs', 0⟩, ⟨tg1, iter1, ifs1', 0⟩] => m.calm && blkC m.N m.sc sc (ownP m own) && (tgs t).all (fun i => own.contains i) && (tgs t1).all (fun i => own.contains i && !(tgs t).contains i) &&
        decide (ifs.length ≤ 1) && decide (ifs1.length ≤ 1) && itn it && itn it1 && noSet iter && noSet iter1 &&
        mI n m it iter && mTg n (m.blk sc) t tg && mIfs n (m.blk sc) ifs ifs' && mI n (m.blk sc) it1 iter1 && mTg n (m.blk sc) t1 tg1 && mIfs n (m.blk sc) ifs1 ifs1' && mE n (m.blk sc) elt b
    | _, _ => false
def mIfs : Nat → Mc → List Q → List Ex → Bool
  | 0, _, _, _ => false
  | n + 1, m, qs, as =>
    match qs, as with
    | [], [] => true
    | [q], [a] => mQ n m q a
    | _, _ => false
def mI : Nat → Mc → It → Ex → Bool
  | 0, _, _, _ => false
  | n + 1, m, it, a =>
    match it with
    | .e x => mE n m x a
    | .rng [x] => (match a with | .Call (.Name y _) [a] [] _ => decide (y = ("range" : Str)) && frB tb m y && nost x && nostX a && mE n m x a | _ => false)
    | .rng [x, z] => (match a with | .Call (.Name y _) [a, b] [] _ => decide (y = ("range" : Str)) && frB tb m y && nost x && nostX a && nost z && nostX b && mE n m x a && mE n m z b | _ => false)
    | .rng _ => false
def mO : Nat → Mc → Option E → Option Ex → Bool
  | 0, _, _, _ => false
  | n + 1, m, l, a =>
    match l, a with
    | none, none => true
    | some x, some a => mE n m x a
    | _, _ => false
def mEs : Nat → Mc → List E → List Ex → Bool
  | 0, _, _, _ => false
  | n + 1, m, es, as =>
    match es, as with
    | [], [] => true
    | e :: es, a :: as => (match e with
      | .star x => (match a with | .Starred a _ => mE n m x a && mEs n m es as | _ => false)
      | e => nost e && nostX a && mE n m e a && mEs n m es as)
    | _, _ => false
def mQ : Nat → Mc → Q → Ex → Bool
  | 0, _, _, _ => false
  | n + 1, m, q, a =>
    match q with
    | .not q => (match a with | .UnaryOp .Not a _ => mQ n m q a | _ => false)
    | .and x y => (match a with
      | .BoolOp .And (a :: b :: []) _ => mQ n m x a && mQ n m y b
      | .BoolOp .And (a :: b :: c :: r) p => mQ n m x a && mQ n m y (.BoolOp .And (b :: c :: r) p)
      | _ => false)
    | .or x y => (match a with
      | .BoolOp .Or (a :: b :: []) _ => mQ n m x a && mQ n m y b
      | .BoolOp .Or (a :: b :: c :: r) p => mQ n m x a && mQ n m y (.BoolOp .Or (b :: c :: r) p)
      | _ => false)
    | .e x => (match a with
      | .Compare _ _ _ _ => isCmp x && mE n m x a
      | a => plainT a && mE n m x a)
end
end

end Dl
end

section
set_option Elab.async false
set_option linter.all false
set_option maxRecDepth 100000
set_option maxHeartbeats 1000000
/-! D40: an L text that says what the program's text says does what it does: the ground. -/
namespace Dl
open PySem PySem.Spec PyProof.Rows L2
/-- what the module's names are -/
structure Gd (T : Pg) (ad : Ad) (tb : Tb) (K : PySem.W.Frag) (mg : Str → Option Value) : Prop where
  dn : ∀ (k : Nat) (x : Str), tb.dn[k]? = some (some x) → mg x = some (.ref (ad.fn k)) ∧ PySem.W.keepIn K (.ref (ad.fn k)) = true
  num : ∀ x i, (x, i) ∈ tb.nums → ∃ t, mg x = some (.int i t)
  free : ∀ x, x ∈ tb.free → mg x = none
  comb : tb.comb = true → mg "comb" = some (.builtin "math.comb")
  nms : ∀ (f : Nat) (y : Str), tb.nms[f]? = some y → ad.nm f = y
  cf : Clf T ad K
  ff : Fnf T ad K
/-- what a def promises where it is called -/
def FnF (T : Pg) (ad : Ad) (tb : Tb) (C : List Nat → Nat → List D → Sto → R D) (lv : Nat) (P : Program) (w : World) (K : PySem.W.Frag) (mg : Str → Option Value) (base : Heap) : Prop :=
  ∀ (k : Nat) (ps : List Str), tb.ps[k]? = some ps → ∃ fd, FnG P w K mg base (L2.CX P w) lv (ad.fn k) fd ps (spG T ad C k) ∧ BdG fd ps ∧ ∀ ks pl, (k, ks, pl) ∈ tb.kw → KbG0 fd ps ks pl
/-- where an expression stands -/
structure Cxt (T : Pg) (ad : Ad) (tb : Tb) (C : List Nat → Nat → List D → Sto → R D) (lv : Nat) (X : Cx) (W : WX) (m : Mc) : Prop where
  gd : Gd T ad tb X.K X.mg
  fn : m.calm = true → FnF T ad tb C lv X.prog X.w X.K X.mg X.base
  dps : ∀ (k : Nat) (x : Str), tb.dn[k]? = some (some x) → ∃ ps, tb.ps[k]? = some ps
  calm : X.calm = m.calm
  rm : m.calm = true → RmG lv X.A
  ck : Cok X
  N : X.N = m.N
  nd : X.N.Nodup
  sc : X.env.scope = m.sc
  fc : ∀ x, m.os.names.lookup x = some .cell → X.fn x = true
  tk : Takes X W
  cx : m.calm = true → m.xs = none
  xs : ∀ p, ad.xa = some p → m.xs = some p.2.2.2
  xat : ∀ i, m.xs = some i → ∀ (b : List Nat) (f : Nat) (x y : Str) (p q : Pos), nmB m i x = true → tb.nms[f]? = some y → PE X (.Attribute (.Name x p) y q) (tE T ad b W (ev T C b (.xat i f)))
section
variable {T : Pg} {ad : Ad} {tb : Tb} {C : List Nat → Nat → List D → Sto → R D} {lv : Nat} {X : Cx} {W : WX} {m : Mc}
theorem Cxt.gl (c : Cxt T ad tb C lv X W m) {x : Str} (h : glbB m.sc x = true) : Gl X x ∧ (x == ("__debug__" : Str)) = false ∧ x ≠ "__name__" := by
  unfold glbB at h
  simp only [Bool.and_eq_true, Bool.not_eq_true'] at h
  obtain ⟨⟨h1, h2⟩, h3⟩ := h
  refine ⟨?_, h2, fun z => by rw [z] at h3; simp at h3⟩
  show X.env.scope.names.lookup x = _
  rw [c.sc]
  split at h1
  · assumption
  · cases h1
theorem Cxt.fr (c : Cxt T ad tb C lv X W m) {x : Str} (h : frB tb m x = true) : Gl X x ∧ (x == ("__debug__" : Str)) = false ∧ x ≠ "__name__" ∧ X.mg x = none := by
  unfold frB at h
  rw [Bool.and_eq_true] at h
  obtain ⟨g1, g2, g3⟩ := c.gl h.1
  exact ⟨g1, g2, g3, c.gd.free x (List.contains_iff_mem.mp h.2)⟩
theorem Cxt.nm (c : Cxt T ad tb C lv X W m) {i : Nat} {x : Str} (h : nmB m i x = true) : NmAt X i x := by
  unfold nmB at h
  simp only [Bool.and_eq_true, decide_eq_true_eq, Bool.not_eq_true'] at h
  obtain ⟨⟨⟨h1, h2⟩, h3⟩, h4⟩ := h
  refine ⟨by rw [c.N]; exact h1, ?_, h3, h4⟩
  show _ ∨ _ ∨ _
  rw [c.sc]
  unfold visB at h2
  split at h2
  · exact .inl ‹_›
  · exact .inr (.inl ‹_›)
  · exact .inr (.inr ‹_›)
  · cases h2
theorem Cxt.loc (c : Cxt T ad tb C lv X W m) {x : Str} (h : locB m x = true) : Loc X.env.scope x ∧ (X.fn x = true ∨ X.env.scope.names.lookup x = some .local) := by
  rw [show Loc X.env.scope x = (X.env.scope.names.lookup x = some .local ∨ X.env.scope.names.lookup x = some .cell) from rfl, c.sc]
  unfold locB at h
  split at h
  · exact ⟨.inl ‹_›, .inr ‹_›⟩
  · exact ⟨.inr ‹_›, .inl (c.fc x (of_decide_eq_true h))⟩
  · cases h
theorem Cxt.cst (c : Cxt T ad tb C lv X W m) {d : D} {a : Ex} {b : List Nat} (h : mCst tb m d a = true) : PE X a (tE T ad b W (ev T C b (.cst d))) := by
  unfold mCst at h
  split at h
  · split at h
    · cases of_decide_eq_true h
      exact pe_imp pe_int (cst_ok fun H mu nu => .int _)
    · cases h
  · split at h
    · cases of_decide_eq_true h
      exact pe_imp pe_str (cst_ok fun H mu nu => .str _)
    · cases h
  · split at h
    · cases of_decide_eq_true h
      exact pe_imp pe_bl (cst_ok fun H mu nu => .bl _)
    · cases h
  · split at h
    · exact pe_imp pe_non (cst_ok fun H mu nu => .non)
    · cases h
  · split at h
    · rw [Bool.and_eq_true] at h
      obtain ⟨g1, g2, g3⟩ := c.gl h.1
      obtain ⟨t, ht⟩ := c.gd.num _ _ (List.contains_iff_mem.mp h.2)
      exact pe_imp (pe_glob (v := .int _) g1 ht ⟨t, rfl⟩ g2) (cst_ok fun H mu nu => .int _)
    · cases h
  · cases h
theorem boot_prim : ∀ p : Prim, isComb p = false → bootBuiltins (primN p) = some (primV p) := by
  intro p
  cases p <;> first | (intro h; cases h; done) | (intro _; simp only [primN, primV]; decide +kernel)
theorem boot_ty (ad : Ad) : ∀ u : Ty, (∀ c, u ≠ .cls c) → u ≠ .none → bootBuiltins (tyN u) = some (tyU ad u) ∧ RelV (tyV ad u) (tyU ad u) := by
  intro u
  cases u <;> first | (intro h; exact absurd rfl (h _)) | (intro _ h; exact absurd rfl h) | (intro _ _; exact ⟨by simp only [tyN, tyU]; decide +kernel, rfl⟩)
theorem Cxt.ty (c : Cxt T ad tb C lv X W m) {u : Ty} {a : Ex} (h : mTy tb m u a = true) : PE X a (tC (tyV ad u)) ∧ (∀ k, u ≠ .cls k) ∧ nostX a = true := by
  unfold mTy at h
  split at h
  · split at h
    · cases h
    · cases h
    · rename_i n1 n2
      rw [Bool.and_eq_true] at h
      obtain ⟨h1, h2⟩ := h
      cases of_decide_eq_true h1
      obtain ⟨g1, g2, g3, g4⟩ := c.fr h2
      obtain ⟨b1, b2⟩ := boot_ty ad u (fun k z => n1 k z) fun z => n2 z
      exact ⟨pe_bltn g1 g4 b1 b2 g3 g2, fun k z => n1 k z, rfl⟩
  · cases h
theorem Cxt.tys (c : Cxt T ad tb C lv X W m) : ∀ {us : List Ty} {as : List Ex}, mTys tb m us as = true → PA X as (tCs (us.map (tyV ad))) ∧ (∀ u, u ∈ us → ∀ k, u ≠ .cls k)
  | [], [], _ => ⟨pa_nil, fun u h => absurd h List.not_mem_nil⟩
  | u :: us, a :: as, h => by
    rw [mTys, Bool.and_eq_true] at h
    obtain ⟨g1, g2, g3⟩ := c.ty h.1
    obtain ⟨k1, k2⟩ := Cxt.tys c h.2
    refine ⟨pa_cons g1 k1 (star_cons g3), fun v hv => ?_⟩
    rcases List.mem_cons.mp hv with rfl | hv
    · exact g2
    · exact k2 v hv
  | [], _ :: _, h => by cases h
  | _ :: _, [], h => by cases h
/-- the block of a comprehension -/
theorem Cxt.blk (c : Cxt T ad tb C lv X W m) (hc : m.calm = true) (s : Shared) (H : Hp) (sc : PySem.Scope) (D : Addr) (cl : List (Str × Addr)) (fp : List Addr) :
    Cxt T ad tb C lv (X.blk s H sc (compEnvC sc cl D X.env) fp) noX (m.blk sc) where
  gd := c.gd
  fn := c.fn
  dps := c.dps
  calm := c.calm
  rm := c.rm
  ck := ⟨c.ck.gd, c.ck.un, c.ck.sys⟩
  N := c.N
  nd := c.nd
  sc := by
    show PySem.relabel sc X.env = relab m.sc sc
    rw [← c.sc]
    rfl
  fc := fun x h => by
    show (sc.names.lookup x == some .cell) = true
    rw [show sc.names.lookup x = _ from h]
    rfl
  tk := fun u s' ⟨_, _, _, _, _, _, _, _, _, _, _, _, _, _, _, _, z⟩ => z.elim
  cx := c.cx
  xs := fun p h => c.xs p h
  xat := fun i h => by rw [show (m.blk sc).xs = m.xs from rfl, c.cx hc] at h; cases h
end
end Dl
end

section
set_option Elab.async false
set_option linter.all false
set_option maxRecDepth 100000
set_option maxHeartbeats 2000000
/-! D41: an L text that says what the program's text says does what it does: expressions. -/
namespace Dl
open PySem PySem.Spec PyProof.Rows L2
theorem pw_imp {X : Cx} {e : Ex} {t t' : TT} (p : PW X e t) (h : ∀ s H Q, t' s H Q → t s H Q) : PW X e t' := ⟨fun wh pins z s H Q I q => p.run wh pins z s H Q I (h _ _ _ q)⟩
theorem pi_imp {X : Cx} {tg e : Ex} {t t' : TI} (p : PI X tg e t) (h : ∀ s H Q, t' s H Q → t s H Q) : PI X tg e t' := ⟨fun pins z s H Q I q => p.run pins z s H Q I (h _ _ _ q)⟩
theorem pk_imp {X : Cx} {e : List Keyword} {t t' : TA} (p : PK X e t) (h : ∀ s H Q, t' s H Q → t s H Q) : PK X e t' := ⟨fun pos pins z s H Q I q => p.run pos pins z s H Q I (h _ _ _ q)⟩
theorem tE_mono {T : Pg} {ad : Ad} {b : List Nat} {W : WX} {r : Env → Sto → R D} {s : L2.St} {H : Hp} {Q Q' : VK} (h : ∀ v H, Q v H → Q' v H) (q : tE T ad b W r s H Q) : tE T ad b W r s H Q' := by
  obtain ⟨mu, nu, e, S, st, p⟩ := q
  refine ⟨mu, nu, e, S, st, ?_⟩
  cases hr : r e S with
  | ok d S1 => rw [hr] at p; exact fun v H' mu' nu' fp x st ro ow fr => h _ _ (p v H' mu' nu' fp x st ro ow fr)
  | ex c xs S1 => rw [hr] at p; exact p
  | er => rw [hr] at p; exact p
theorem ownP_snd (m : Mc) (own : List Nat) : (ownP m own).map (·.2) = own := by
  unfold ownP
  rw [List.map_map]
  exact List.map_id'' (fun _ => rfl) own
section
variable {T : Pg} {ad : Ad} {tb : Tb} {C : List Nat → Nat → List D → Sto → R D} {lv : Nat}
theorem rng1_ok {b : List Nat} {W : WX} {K : PySem.W.Frag} {x : E} (hx : nost x = true) : ∀ s H R, tI T ad b W K C (.rng [x]) s H R → iRng1 (tCons (tE T ad b W (ev T C b x)) tNil) s H R := fun s H R q =>
  cons_ok (fun y z => by rw [z] at hx; cases hx) s H _ q |> fun q => tE_mono (fun v H1 q => nil_ok _ _ _ q) q
theorem rng2_ok {b : List Nat} {W : WX} {K : PySem.W.Frag} {x z : E} (hx : nost x = true) (hz : nost z = true) : ∀ s H R, tI T ad b W K C (.rng [x, z]) s H R → iRng2 (tCons (tE T ad b W (ev T C b x)) (tCons (tE T ad b W (ev T C b z)) tNil)) s H R := fun s H R q =>
  cons_ok (fun y z => by rw [z] at hx; cases hx) s H _ q |> fun q => tE_mono (fun v H1 q => tE_mono (fun v H1 q => nil_ok _ _ _ q) (cons_ok (fun y e => by rw [e] at hz; cases hz) _ _ _ q)) q
mutual
theorem mTg_ok : ∀ (n : Nat) {X : Cx} {W : WX} {m : Mc} {t : Tg} {a : Ex}, Cxt T ad tb C lv X W m → mTg n m t a = true → PG X a (gT X.K t)
  | 0, X, W, m, t, a, c, h => by cases h
  | n + 1, X, W, m, t, a, c, h => by
    cases t with
    | nm i =>
      unfold mTg at h
      dsimp only at h
      split at h
      · rw [Bool.and_eq_true] at h
        obtain ⟨g1, g2⟩ := c.loc h.2
        exact pg_name c.nd (by rw [c.N]; exact of_decide_eq_true h.1) g1 g2
      · cases h
    | tup ts =>
      unfold mTg at h
      dsimp only at h
      split at h
      · simp only [Bool.and_eq_true] at h
        obtain ⟨⟨h1, h2⟩, h3⟩ := h
        obtain ⟨g1, g2⟩ := mTgs_ok n c h2 h3
        exact pg_seq (c.calm.trans h1) g1 ((asg_len h2).trans g2) (asg_none h2)
      · cases h
theorem mTgs_ok : ∀ (n : Nat) {X : Cx} {W : WX} {m : Mc} {ts : List Tg} {as : List Ex}, Cxt T ad tb C lv X W m → as.all nostX = true → mTgs n m ts as = true → PGs X as (gTs X.K ts) ∧ as.length = ts.length
  | 0, X, W, m, t, a, c, _, h => by cases h
  | n + 1, X, W, m, ts, as, c, hn, h => by
    match ts, as, hn, h with
    | [], [], _, _ => exact ⟨pgs_nil, rfl⟩
    | t :: ts, a :: as, hn, h =>
      unfold mTgs at h
      dsimp only at h
      rw [Bool.and_eq_true] at h
      rw [List.all_cons, Bool.and_eq_true] at hn
      obtain ⟨g1, g2⟩ := mTgs_ok n c hn.2 h.2
      exact ⟨pgs_cons (mTg_ok n c h.1) g1 (by rw [asg_cons hn.1]; rfl), by rw [List.length_cons, List.length_cons, g2]⟩
    | [], _ :: _, _, h => cases h
    | _ :: _, [], _, h => cases h
end
theorem mEs_nil {n : Nat} {m : Mc} {es : List E} (h : mEs tb n m es [] = true) : es = [] := by
  cases n with
  | zero => cases h
  | succ n =>
    cases es with
    | nil => rfl
    | cons e es => unfold mEs at h; cases h
theorem mEs_len : ∀ {n : Nat} {m : Mc} {es : List E} {as : List Ex}, es.all nost = true → mEs tb n m es as = true → es.length = as.length
  | 0, m, es, as, _, h => by cases h
  | n + 1, m, [], [], _, _ => rfl
  | n + 1, m, [], _ :: _, _, h => by unfold mEs at h; cases h
  | n + 1, m, _ :: _, [], _, h => by unfold mEs at h; cases h
  | n + 1, m, e :: es, a :: as, hn, h => by
    rw [List.all_cons, Bool.and_eq_true] at hn
    unfold mEs at h
    dsimp only at h
    split at h
    · cases hn.1
    · simp only [Bool.and_eq_true] at h
      rw [List.length_cons, List.length_cons, mEs_len hn.2 h.2]
section
variable {X : Cx} {W : WX} {m : Mc}
theorem Cxt.call (c : Cxt T ad tb C lv X W m) {n k : Nat} {x : Str} {b : List Nat} {p pos : Pos} {es : List E} {as : List Ex} (hc : m.calm = true) (hd : tb.dn[k]? = some (some x)) (hg : glbB m.sc x = true) (hn : as.all nostX = true) (he : mEs tb n m es as = true) (ha : PA X as (tA T ad b W (evs T C b es))) :
    PE X (.Call (.Name x p) as [] pos) (tE T ad b W (ev T C b (.call k es))) := by
  obtain ⟨ps, hps⟩ := c.dps k x hd
  obtain ⟨fd, F, B, _⟩ := c.fn hc k ps hps
  obtain ⟨g1, g2, g3⟩ := c.gl hg
  obtain ⟨d1, d2⟩ := c.gd.dn k x hd
  cases as with
  | nil =>
    cases mEs_nil he
    exact pe_imp (pe_callG0 F (c.rm hc) g1 d1 d2 B (fun σ => passAt c.tk σ) g2) fun s H P h => nil_ok _ _ _ (call_ok s H P h)
  | cons a as =>
    rw [List.all_cons, Bool.and_eq_true] at hn
    exact pe_imp (pe_callG F (c.rm hc) g1 d1 d2 B (fun σ => passAt c.tk σ) ha g2 (star_cons hn.1) (star_none hn.2)) call_ok
end
mutual
theorem mE_ok : ∀ (n : Nat) {X : Cx} {W : WX} {m : Mc} {l : E} {a : Ex} {b : List Nat}, Cxt T ad tb C lv X W m → mE tb n m l a = true → PE X a (tE T ad b W (ev T C b l))
  | 0, X, W, m, l, a, b, c, h => by cases h
  | n + 1, X, W, m, l, a, b, c, h => by
    cases l with
    | pl k x =>
      unfold mE at h
      exact pe_imp (mE_ok n c h) pl_ok
    | cst d =>
      unfold mE at h
      exact c.cst h
    | var i =>
      unfold mE at h
      dsimp only at h
      split at h
      · rw [Bool.and_eq_true] at h
        exact pe_imp (c.nm h.1).pe (var_ok fun p hp z => (of_decide_eq_true h.2) (by rw [c.xs p hp, z]))
      · cases h
    | bin o x y =>
      unfold mE at h
      dsimp only at h
      split at h
      · simp only [Bool.and_eq_true, decide_eq_true_eq] at h
        obtain ⟨⟨rfl, h2⟩, h3⟩ := h
        exact pe_imp (pe_op (op_bin o) (mE_ok n c h2) (mE_ok n c h3)) bin_ok
      · cases h
    | neg x =>
      unfold mE at h
      dsimp only at h
      split at h
      · exact pe_imp (pe_un un_neg (mE_ok n c h)) neg_ok
      · cases h
    | not q =>
      unfold mE at h
      dsimp only at h
      split at h
      · exact pe_imp (pe_notT (mQV_ok n c h)) not_ok
      · cases h
    | and x y =>
      unfold mE at h
      dsimp only at h
      split at h
      · rw [Bool.and_eq_true] at h
        exact pe_imp (pe_and (mE_ok n c h.1) (pe_one (mE_ok n c h.2))) and_ok
      · rw [Bool.and_eq_true] at h
        exact pe_imp (pe_and (mE_ok n c h.1) (mE_ok n c h.2)) and_ok
      · cases h
    | or x y =>
      unfold mE at h
      dsimp only at h
      split at h
      · rw [Bool.and_eq_true] at h
        exact pe_imp (pe_or (mE_ok n c h.1) (pe_one (mE_ok n c h.2))) or_ok
      · rw [Bool.and_eq_true] at h
        exact pe_imp (pe_or (mE_ok n c h.1) (mE_ok n c h.2)) or_ok
      · cases h
    | ite q x y =>
      unfold mE at h
      dsimp only at h
      split at h
      · simp only [Bool.and_eq_true] at h
        obtain ⟨⟨h1, h2⟩, h3⟩ := h
        exact pe_imp (pe_ifExp (mQ_ok n c h1) (mE_ok n c h2) (mE_ok n c h3)) ite_ok
      · cases h
    | cmp o x y =>
      unfold mE at h
      dsimp only at h
      split at h
      · simp only [Bool.and_eq_true, decide_eq_true_eq] at h
        obtain ⟨⟨⟨rfl, h2⟩, h3⟩, h4⟩ := h
        exact pe_imp (pe_cmpR (op_cmp (by have := c.ck.un; omega) o) (mE_ok n c h3) (mE_ok n c h4) (mark_no _ h2)) cmp_ok
      · cases h
    | chn o o2 x y z =>
      unfold mE at h
      dsimp only at h
      split at h
      · simp only [Bool.and_eq_true, decide_eq_true_eq] at h
        obtain ⟨⟨⟨⟨⟨rfl, rfl⟩, h2⟩, h3⟩, h4⟩, h5⟩ := h
        have hu : X.A.units + 65 < cLine := by have := c.ck.un; omega
        exact pe_imp (pe_chain (op_cmp hu o) (op_cmp hu o2) (mE_ok n c h3) (mE_ok n c h4) (mE_ok n c h5) (mark_no o2 h2)) chn_ok
      · cases h
    | tup es =>
      unfold mE at h
      dsimp only at h
      split at h
      · exact pe_imp (pe_tupZ (mEs_ok n c h)) tup_ok
      · cases h
    | lst es =>
      unfold mE at h
      dsimp only at h
      split at h
      · exact pe_imp (pe_lst (mEs_ok n c h)) lst_ok
      · cases h
    | star x =>
      unfold mE at h
      cases h
    | sub x i =>
      unfold mE at h
      dsimp only at h
      split at h
      · simp only [Bool.and_eq_true] at h
        obtain ⟨⟨h1, h2⟩, h3⟩ := h
        exact pe_imp (pe_ix ix_sub (mE_ok n c h2) (mE_ok n c h3) (ix_plain h1)) sub_ok
      · cases h
    | slc x lo hi =>
      unfold mE at h
      dsimp only at h
      split at h
      · simp only [Bool.and_eq_true] at h
        obtain ⟨⟨h1, h2⟩, h3⟩ := h
        exact pe_imp (pe_slice sl_slc (mE_ok n c h1) (mO_ok n c h2) (mO_ok n c h3)) slc_ok
      · cases h
    | rev x =>
      unfold mE at h
      dsimp only at h
      split at h
      · exact pe_imp (pe_revS (mE_ok n c h)) rev_ok
      · cases h
    | attr x f =>
      unfold mE at h
      dsimp only at h
      split at h
      · simp only [Bool.and_eq_true, decide_eq_true_eq] at h
        obtain ⟨⟨h1, h2⟩, h3⟩ := h
        have e := c.gd.nms _ _ h2
        subst e
        exact pe_imp (pe_fld (mE_ok n c h3) (base_ok h1)) (attr_ok c.gd.cf c.gd.ff)
      · cases h
    | xat i f =>
      unfold mE at h
      dsimp only at h
      split at h
      · simp only [Bool.and_eq_true, decide_eq_true_eq] at h
        obtain ⟨⟨h1, h2⟩, h3⟩ := h
        exact c.xat i h2 b f _ _ _ _ h1 h3
      · cases h
    | call k es =>
      unfold mE at h
      dsimp only at h
      split at h
      · simp only [Bool.and_eq_true, decide_eq_true_eq] at h
        obtain ⟨⟨⟨⟨h1, h2⟩, h3⟩, h4⟩, h5⟩ := h
        exact c.call h1 h2 h3 h4 h5 (mEs_ok n c h5)
      · cases h
    | callK k es pl =>
      unfold mE at h
      dsimp only at h
      split at h
      · split at h
        · rename_i ks hks
          simp only [Bool.and_eq_true, decide_eq_true_eq] at h
          obtain ⟨⟨⟨⟨⟨⟨h1, h2⟩, h3⟩, h4⟩, h5⟩, h6⟩, h7⟩ := h
          obtain ⟨ps, hps⟩ := c.dps _ _ h2
          obtain ⟨fd, F, B, Bk⟩ := c.fn h1 _ ps hps
          obtain ⟨g1, g2, g3⟩ := c.gl h3
          obtain ⟨d1, d2⟩ := c.gd.dn _ _ h2
          obtain ⟨k1, k2, k3⟩ := kw_all hks
          exact pe_imp (pe_callKG0 F (c.rm h1) g1 d1 d2 (Bk _ _ (List.contains_iff_mem.mp h4)) h5 (fun σ => passAt c.tk σ) (mKs_ok n c h6 h7) k1 k2 g2 (by rw [k3]; rfl)) callK_ok
        · cases h
      · cases h
    | new _ _ => unfold mE at h; cases h
    | umeth _ _ _ => unfold mE at h; cases h
    | prim p es =>
      unfold mE at h
      dsimp only at h
      split at h
      · rename_i x pn a1 as ps
        split at h
        · split at h
          · rename_i u e1 t _
            simp only [Bool.and_eq_true, decide_eq_true_eq] at h
            obtain ⟨⟨⟨⟨⟨rfl, h2⟩, h3⟩, h4⟩, h5⟩, h6⟩ := h
            obtain ⟨g1, g2, g3, g4⟩ := c.fr h2
            obtain ⟨t1, t2, t3⟩ := c.ty h6
            exact pe_imp (pe_callB call_isi g1 g4 (boot_prim (.isi [u]) rfl) (pa_cons (mE_ok n c h5) (pa_cons t1 pa_nil (star_cons t3)) (star_cons h4)) g3 g2 (star_cons h4) (star_none (by rw [List.all_cons, t3]; rfl)))
              (isi_ok c.gd.cf (fun y z => by rw [z] at h3; cases h3) fun k z => absurd z (t2 k))
          · rename_i us e1 ts _ _ _ _
            simp only [Bool.and_eq_true, decide_eq_true_eq] at h
            obtain ⟨⟨⟨⟨⟨⟨rfl, h2⟩, h3⟩, h4⟩, hz⟩, h5⟩, h6⟩ := h
            obtain ⟨g1, g2, g3, g4⟩ := c.fr h2
            obtain ⟨t1, t2⟩ := c.tys h6
            exact pe_imp (pe_callB call_isiT g1 g4 (boot_prim (.isi us) rfl) (pa_cons (mE_ok n c h5) (pa_cons (pe_tup t1) pa_nil rfl) (star_cons h4)) g3 g2 (star_cons h4) rfl)
              (isiT_ok c.gd.cf (fun y z => by rw [z] at h3; cases h3) (by rw [sizeLine_eq]; omega) fun u hu k z => absurd z (t2 u hu k))
          · cases h
        · rename_i hi
          have hi2 : ∀ ts, p ≠ .isi ts := fun ts z => hi (by rw [z]; rfl)
          split at h
          · rename_i hcb
            simp only [Bool.and_eq_true, decide_eq_true_eq] at h
            obtain ⟨⟨⟨⟨rfl, h2⟩, h3⟩, h4⟩, h5⟩ := h
            obtain ⟨g1, g2, g3⟩ := c.gl h2
            have hp : p = .comb := by cases p <;> first | rfl | cases hcb
            subst hp
            rw [List.all_cons, Bool.and_eq_true] at h4
            exact pe_imp (StS.pe_callG (cr_prim (T := T) (ad := ad) c.ck .comb fun z => by cases z) g1 (c.gd.comb h3) (mEs_ok n c h5) g2 (star_cons h4.1) (star_none h4.2)) (prim_ok hi2)
          · rename_i hcb
            simp only [Bool.and_eq_true, decide_eq_true_eq, Bool.or_eq_true, Bool.not_eq_true'] at h
            obtain ⟨⟨⟨⟨rfl, h2⟩, h4⟩, hq⟩, h5⟩ := h
            obtain ⟨g1, g2, g3, g4⟩ := c.fr h2
            have hc : primCalm p = true → X.calm = true := fun z => by
              rcases hq with hq | hq
              · rw [z] at hq; cases hq
              · exact c.calm.trans hq
            have hb := boot_prim p (by simpa using hcb)
            have hr := cr_prim (T := T) (ad := ad) c.ck p hc
            rw [List.all_cons, Bool.and_eq_true] at h4
            have ha := mEs_ok (b := b) n c h5
            cases p with
            | isi ts => exact absurd rfl (hi2 ts)
            | list => exact pe_imp (pe_callTy hr g1 g4 hb ha g3 g2 (star_cons h4.1) (star_none h4.2)) (prim_ok hi2)
            | tuple => exact pe_imp (pe_callTy hr g1 g4 hb ha g3 g2 (star_cons h4.1) (star_none h4.2)) (prim_ok hi2)
            | int => exact pe_imp (pe_callTy hr g1 g4 hb ha g3 g2 (star_cons h4.1) (star_none h4.2)) (prim_ok hi2)
            | dict => exact pe_imp (pe_callTy hr g1 g4 hb ha g3 g2 (star_cons h4.1) (star_none h4.2)) (prim_ok hi2)
            | _ => exact pe_imp (pe_callB hr g1 g4 hb ha g3 g2 (star_cons h4.1) (star_none h4.2)) (prim_ok hi2)
      · cases h
    | «meth» k x es =>
      cases k
      unfold mE at h
      dsimp only at h
      split at h
      · simp only [Bool.and_eq_true, decide_eq_true_eq] at h
        obtain ⟨⟨⟨⟨⟨⟨rfl, h2⟩, h3⟩, h4⟩, h5⟩, h6⟩, h7⟩ := h
        have h4' := h4
        rw [List.all_cons, Bool.and_eq_true] at h4'
        exact pe_imp (pe_idx (by have := c.ck.un; omega) (mE_ok n c h6) (mEs_ok n c h7) (base_ok h2) (few_ok h4 (decide_eq_true h5)) h3 (star_cons h4'.1) (star_none h4'.2)) idx_ok
      · cases h
    | «mut» k x es =>
      unfold mE at h
      dsimp only at h
      split at h
      · rename_i o y p as q
        simp only [Bool.and_eq_true, decide_eq_true_eq] at h
        obtain ⟨⟨⟨⟨⟨⟨rfl, h2⟩, h3⟩, h4⟩, h5⟩, h6⟩, h7⟩ := h
        have sl : PySem.Slot "list" (mutN k) (mutId k) ∧ typeOf (.builtin (mutId k)) = pure (.type "method_descriptor") := by
          cases k
          · exact ⟨PySem.F.slot_list_append, PySem.F.type_list_append⟩
          · exact ⟨PySem.F.slot_list_pop, PySem.F.type_list_pop⟩
          · exact ⟨PySem.F.slot_list_pop, PySem.F.type_list_pop⟩
        cases as with
        | nil =>
          cases mEs_nil h7
          exact pe_imp (pe_bm0 PySem.F.plainAttrs_list sl.1 sl.2 (mt_mut k) (mE_ok n c h6) (base_ok h2) h3) mut0_ok
        | cons a as =>
          have h4' := h4
          rw [List.all_cons, Bool.and_eq_true] at h4'
          exact pe_imp (pe_bm PySem.F.plainAttrs_list sl.1 sl.2 (mt_mut k) (mE_ok n c h6) (mEs_ok n c h7) (base_ok h2) (few_ok h4 (decide_eq_true h5)) h3 (star_cons h4'.1) (star_none h4'.2)) mut_ok
      · cases h
    | lc own elt gs =>
      unfold mE at h
      dsimp only at h
      split at h
      · exact (mLc_ok n c h).1
      · cases h
theorem mLc_ok : ∀ (n : Nat) {X : Cx} {W : WX} {m : Mc} {own : List Nat} {elt : E} {gs : List G} {a : Ex} {gs' : List Comprehension} {sc : PySem.Scope} {pos : Pos} {b : List Nat}, Cxt T ad tb C lv X W m → mLc tb n m own elt gs a gs' sc = true →
    PE X (.ListComp a gs' sc pos) (tE T ad b W (ev T C b (.lc own elt gs))) ∧
      ∀ {i : Nat} {y : Str} {py spos : Pos}, X.N[i]? = some y → X.env.scope.names.lookup y = some .local → swapsWith (.ListComp a gs' sc pos) (some (.Name y py)) spos.line X.env = pure true →
        PS X (.Assign [.Name y py] (.ListComp a gs' sc pos) spos) (tAsg (tE T ad b W (ev T C b (.lc own elt gs))) (gName i))
  | 0, X, W, m, own, elt, gs, a, gs', sc, pos, b, c, h => by cases h
  | n + 1, X, W, m, own, elt, gs, a, gs', sc, pos, b, c, h => by
    unfold mLc at h
    split at h
    · rename_i t it ifs tg iter ifs'
      simp only [Bool.and_eq_true, decide_eq_true_eq] at h
      obtain ⟨⟨⟨⟨⟨⟨⟨⟨⟨h1, h2⟩, h3⟩, h4⟩, h5⟩, h6⟩, h7⟩, h8⟩, h9⟩, h10⟩ := h
      have ok : BlkOk X.N X.env.scope sc (ownP m own) := by rw [c.N, c.sc]; exact blkOk_by h2
      have hi := mI_ok (b := b) (tg := tg) n c h7
      have hg : ∀ (s : Shared) (H : Hp) (D : Addr) (cl : List (Str × Addr)) (fp : List Addr), PG (X.blk s H sc (compEnvC sc cl D X.env) fp) tg (gT X.K t) := fun s H D cl fp => mTg_ok n (c.blk h1 s H sc D cl fp) h8
      have ht := fun (s : Shared) (H : Hp) (D : Addr) (cl : List (Str × Addr)) (fp : List Addr) => mIfs_ok (b := b) n (c.blk h1 s H sc D cl fp) h9
      have he := fun (s : Shared) (H : Hp) (D : Addr) (cl : List (Str × Addr)) (fp : List Addr) => mE_ok (b := b) n (c.blk h1 s H sc D cl fp) h10
      have hown : ∀ i, i ∈ tgs t → i ∈ own := fun i hi => List.contains_iff_mem.mp (List.all_eq_true.mp h3 i hi)
      refine ⟨pe_imp (pe_lc (c.calm.trans h1) c.nd hi ok hg ht he (fold_no h6)) fun s H P q => ?_, fun {i y py spos} hy hyl hsw => ps_imp (ps_setLc (c.calm.trans h1) c.nd hy hyl hsw hi ok hg ht he (fold_no h6)) fun D' s H q => ?_⟩
      · rw [ownP_snd]
        exact lcI_ok h5 hown h4 s H P q
      · rw [ownP_snd]
        exact lcI_ok h5 hown h4 s H _ q
    · rename_i t it ifs t1 it1 ifs1 tg iter ifs' tg1 iter1 ifs1'
      simp only [Bool.and_eq_true, decide_eq_true_eq] at h
      obtain ⟨⟨⟨⟨⟨⟨⟨⟨⟨⟨⟨⟨⟨⟨⟨⟨h1, h2⟩, h3⟩, h3b⟩, h4⟩, h4b⟩, h5⟩, h5b⟩, h6⟩, h6b⟩, h7⟩, h8⟩, h9⟩, h7b⟩, h8b⟩, h9b⟩, h10⟩ := h
      have ok : BlkOk X.N X.env.scope sc (ownP m own) := by rw [c.N, c.sc]; exact blkOk_by h2
      have hi := mI_ok (b := b) (tg := tg) n c h7
      have hg : ∀ (s : Shared) (H : Hp) (D : Addr) (cl : List (Str × Addr)) (fp : List Addr), PG (X.blk s H sc (compEnvC sc cl D X.env) fp) tg (gT X.K t) := fun s H D cl fp => mTg_ok n (c.blk h1 s H sc D cl fp) h8
      have ht := fun (s : Shared) (H : Hp) (D : Addr) (cl : List (Str × Addr)) (fp : List Addr) => mIfs_ok (b := b) n (c.blk h1 s H sc D cl fp) h9
      have hi1 : ∀ (s : Shared) (H : Hp) (D : Addr) (cl : List (Str × Addr)) (fp : List Addr), PI (X.blk s H sc (compEnvC sc cl D X.env) fp) tg1 iter1 (tI T ad b noX X.K C it1) := fun s H D cl fp => mI_ok (b := b) (tg := tg1) n (c.blk h1 s H sc D cl fp) h7b
      have hg1 : ∀ (s : Shared) (H : Hp) (D : Addr) (cl : List (Str × Addr)) (fp : List Addr), PG (X.blk s H sc (compEnvC sc cl D X.env) fp) tg1 (gT X.K t1) := fun s H D cl fp => mTg_ok n (c.blk h1 s H sc D cl fp) h8b
      have ht1 := fun (s : Shared) (H : Hp) (D : Addr) (cl : List (Str × Addr)) (fp : List Addr) => mIfs_ok (b := b) n (c.blk h1 s H sc D cl fp) h9b
      have he := fun (s : Shared) (H : Hp) (D : Addr) (cl : List (Str × Addr)) (fp : List Addr) => mE_ok (b := b) n (c.blk h1 s H sc D cl fp) h10
      have hown : ∀ i, i ∈ tgs t → i ∈ own := fun i hi => List.contains_iff_mem.mp (List.all_eq_true.mp h3 i hi)
      have hown1 : ∀ i, i ∈ tgs t1 → i ∈ own ∧ i ∉ tgs t := fun i hi => by
        have := List.all_eq_true.mp h3b i hi
        rw [Bool.and_eq_true, Bool.not_eq_true'] at this
        exact ⟨List.contains_iff_mem.mp this.1, fun z => by rw [List.contains_iff_mem.mpr z] at this; cases this.2⟩
      have hv : ∀ i ∈ tgs t1, i ∈ (ownP m own).map (·.2) := fun i hi => by rw [ownP_snd]; exact (hown1 i hi).1
      refine ⟨pe_imp (pe_lc2 (c.calm.trans h1) c.nd hi ok hv hg ht hi1 hg1 ht1 he (fold_no h6) fun env => fold_no h6b) fun s H P q => ?_,
        fun {i y py spos} hy hyl hsw => ps_imp (ps_setLc2 (c.calm.trans h1) c.nd hy hyl hsw hi ok hv hg ht hi1 hg1 ht1 he (fold_no h6) fun env => fold_no h6b) fun D' s H q => ?_⟩
      · rw [ownP_snd]
        exact lc2_ok h5 h5b hown hown1 h4 h4b s H P q
      · rw [ownP_snd]
        exact lc2_ok h5 h5b hown hown1 h4 h4b s H _ q
    · cases h
theorem mIfs_ok : ∀ (n : Nat) {X : Cx} {m : Mc} {qs : List Q} {as : List Ex} {b : List Nat}, Cxt T ad tb C lv X noX m → mIfs tb n m qs as = true → PTs X as (tIfs T ad b C qs)
  | 0, X, m, qs, as, b, c, h => by cases h
  | n + 1, X, m, qs, as, b, c, h => by
    unfold mIfs at h
    split at h
    · exact pts_nil
    · exact pts_one (mQ_ok n c h)
    · cases h
theorem mI_ok : ∀ (n : Nat) {X : Cx} {W : WX} {m : Mc} {it : Dl.It} {tg a : Ex} {b : List Nat}, Cxt T ad tb C lv X W m → mI tb n m it a = true → PI X tg a (tI T ad b W X.K C it)
  | 0, X, W, m, it, tg, a, b, c, h => by cases h
  | n + 1, X, W, m, it, tg, a, b, c, h => by
    unfold mI at h
    split at h
    · exact pi_seq (mE_ok n c h)
    · split at h
      · simp only [Bool.and_eq_true, decide_eq_true_eq] at h
        obtain ⟨⟨⟨⟨rfl, h2⟩, h3⟩, h4⟩, h5⟩ := h
        obtain ⟨g1, g2, g3, g4⟩ := c.fr h2
        exact pi_imp (pi_range1 g1 g4 (pa_cons (mE_ok (b := b) n c h5) pa_nil (star_cons h4)) (star_cons h4)) fun s H Q q =>
          rng1_ok h3 s H _ q
      · cases h
    · split at h
      · simp only [Bool.and_eq_true, decide_eq_true_eq] at h
        obtain ⟨⟨⟨⟨⟨⟨⟨rfl, h2⟩, h3⟩, h4⟩, h3b⟩, h4b⟩, h5⟩, h6⟩ := h
        obtain ⟨g1, g2, g3, g4⟩ := c.fr h2
        exact pi_imp (pi_range2 g1 g4 (pa_cons (mE_ok (b := b) n c h5) (pa_cons (mE_ok (b := b) n c h6) pa_nil (star_cons h4b)) (star_cons h4)) (by rw [star_cons h4, star_cons h4b]; rfl) (star_cons h4b)) fun s H Q q =>
          rng2_ok h3 h3b s H _ q
      · cases h
    · cases h
theorem mO_ok : ∀ (n : Nat) {X : Cx} {W : WX} {m : Mc} {l : Option E} {a : Option Ex} {b : List Nat}, Cxt T ad tb C lv X W m → mO tb n m l a = true → PO X a (tOI T ad b W C l)
  | 0, X, W, m, l, a, b, c, h => by cases h
  | n + 1, X, W, m, l, a, b, c, h => by
    unfold mO at h
    split at h
    · exact po_none
    · exact po_some (mE_ok n c h)
    · cases h
theorem mEs_ok : ∀ (n : Nat) {X : Cx} {W : WX} {m : Mc} {es : List E} {as : List Ex} {b : List Nat}, Cxt T ad tb C lv X W m → mEs tb n m es as = true → PA X as (tA T ad b W (evs T C b es))
  | 0, X, W, m, es, as, b, c, h => by cases h
  | n + 1, X, W, m, es, as, b, c, h => by
    unfold mEs at h
    split at h
    · exact pa_imp pa_nil nil_ok
    · split at h
      · split at h
        · rw [Bool.and_eq_true] at h
          exact pa_imp (pa_star (mE_ok n c h.1) (mEs_ok n c h.2)) star_ok
        · cases h
      · rename_i hns
        simp only [Bool.and_eq_true] at h
        obtain ⟨⟨⟨h1, h2⟩, h3⟩, h4⟩ := h
        exact pa_imp (pa_cons (mE_ok n c h3) (mEs_ok n c h4) (star_cons h2)) (cons_ok fun x z => by rw [z] at h1; cases h1)
    · cases h
theorem mKs_ok : ∀ (n : Nat) {X : Cx} {W : WX} {m : Mc} {es : List E} {kws : List Keyword} {b : List Nat}, Cxt T ad tb C lv X W m → es.all nost = true → mEs tb n m es (kws.map (·.value)) = true → PK X kws (tA T ad b W (evs T C b es))
  | 0, X, W, m, es, kws, b, c, _, h => by cases h
  | n + 1, X, W, m, es, kws, b, c, hn, h => by
    cases kws with
    | nil =>
      cases mEs_nil h
      exact pk_imp pk_nil nil_ok
    | cons k kws =>
      obtain ⟨nm, v, kp⟩ := k
      cases es with
      | nil => unfold mEs at h; cases h
      | cons e es =>
        rw [List.all_cons, Bool.and_eq_true] at hn
        have h' : mEs tb (n + 1) m (e :: es) (v :: kws.map (·.value)) = true := h
        unfold mEs at h'
        dsimp only at h'
        split at h'
        · cases hn.1
        · simp only [Bool.and_eq_true] at h'
          obtain ⟨⟨⟨h1, h2⟩, h3⟩, h4⟩ := h'
          exact pk_imp (pk_cons (mE_ok n c h3) (mKs_ok n c hn.2 h4)) (cons_ok fun x z => by rw [z] at h1; cases h1)
theorem mQW_ok : ∀ (n : Nat) {X : Cx} {W : WX} {m : Mc} {q : Q} {o : PySem.BoolOp} {vs : List Ex} {pos : Pos} {b : List Nat}, Cxt T ad tb C lv X W m → mQ tb n m q (.BoolOp o vs pos) = true → PW X (.BoolOp o vs pos) (tQ T ad b W (evT T C b q))
  | 0, X, W, m, q, o, vs, pos, b, c, h => by cases h
  | n + 1, X, W, m, q, o, vs, pos, b, c, h => by
    cases q with
    | not q => unfold mQ at h; cases h
    | e x => unfold mQ at h; cases h
    | and x y =>
      unfold mQ at h
      dsimp only at h
      split at h
      · rename_i heq
        cases heq
        rw [Bool.and_eq_true] at h
        exact pw_imp (pw_and (mQ_ok n c h.1) (pw_and1 (mQ_ok n c h.2))) qand_ok
      · rename_i heq
        cases heq
        rw [Bool.and_eq_true] at h
        exact pw_imp (pw_and (mQ_ok n c h.1) (mQW_ok n c h.2)) qand_ok
      · cases h
    | or x y =>
      unfold mQ at h
      dsimp only at h
      split at h
      · rename_i heq
        cases heq
        rw [Bool.and_eq_true] at h
        exact pw_imp (pw_or (mQ_ok n c h.1) (pw_or1 (mQ_ok n c h.2))) qor_ok
      · rename_i heq
        cases heq
        rw [Bool.and_eq_true] at h
        exact pw_imp (pw_or (mQ_ok n c h.1) (mQW_ok n c h.2)) qor_ok
      · cases h
theorem mQ_ok : ∀ (n : Nat) {X : Cx} {W : WX} {m : Mc} {q : Q} {a : Ex} {b : List Nat}, Cxt T ad tb C lv X W m → mQ tb n m q a = true → PT X a (tQ T ad b W (evT T C b q))
  | 0, X, W, m, q, a, b, c, h => by cases h
  | n + 1, X, W, m, q, a, b, c, h => by
    cases q with
    | not q =>
      unfold mQ at h
      dsimp only at h
      split at h
      · exact pt_imp (pt_not (mQ_ok n c h)) qnot_ok
      · cases h
    | and x y =>
      unfold mQ at h
      dsimp only at h
      split at h
      · rw [Bool.and_eq_true] at h
        exact (pw_imp (pw_and (mQ_ok n c h.1) (pw_and1 (mQ_ok n c h.2))) qand_ok).pt
      · rw [Bool.and_eq_true] at h
        exact (pw_imp (pw_and (mQ_ok n c h.1) (mQW_ok n c h.2)) qand_ok).pt
      · cases h
    | or x y =>
      unfold mQ at h
      dsimp only at h
      split at h
      · rw [Bool.and_eq_true] at h
        exact (pw_imp (pw_or (mQ_ok n c h.1) (pw_or1 (mQ_ok n c h.2))) qor_ok).pt
      · rw [Bool.and_eq_true] at h
        exact (pw_imp (pw_or (mQ_ok n c h.1) (mQW_ok n c h.2)) qor_ok).pt
      · cases h
    | e x =>
      unfold mQ at h
      dsimp only at h
      split at h
      · rw [Bool.and_eq_true] at h
        exact mC_ok n c h.1 h.2
      · rw [Bool.and_eq_true] at h
        exact pt_imp (pt_truth (mE_ok n c h.2) (test_plain h.1)) qe_ok
theorem mC_ok : ∀ (n : Nat) {X : Cx} {W : WX} {m : Mc} {x : E} {a : Ex} {b : List Nat}, Cxt T ad tb C lv X W m → isCmp x = true → mE tb n m x a = true → PT X a (tQ T ad b W (evT T C b (.e x)))
  | 0, X, W, m, x, a, b, c, _, h => by cases h
  | n + 1, X, W, m, x, a, b, c, hx, h => by
    cases x with
    | cmp o x y =>
      unfold mE at h
      dsimp only at h
      split at h
      · simp only [Bool.and_eq_true, decide_eq_true_eq] at h
        obtain ⟨⟨⟨rfl, h2⟩, h3⟩, h4⟩ := h
        exact pt_imp (pt_cmpR (op_cmp (by have := c.ck.un; omega) o) (mE_ok n c h3) (mE_ok n c h4) (mark_no _ h2)) (qcmp_ok cmp_ok cmp_bl)
      · cases h
    | chn o o2 x y z =>
      unfold mE at h
      dsimp only at h
      split at h
      · simp only [Bool.and_eq_true, decide_eq_true_eq] at h
        obtain ⟨⟨⟨⟨⟨rfl, rfl⟩, h2⟩, h3⟩, h4⟩, h5⟩ := h
        have hu : X.A.units + 65 < cLine := by have := c.ck.un; omega
        exact pt_imp (pt_chain (op_cmp hu o) (op_cmp hu o2) (mE_ok n c h3) (mE_ok n c h4) (mE_ok n c h5) (mark_no o2 h2)) (qcmp_ok chn_ok chn_bl)
      · cases h
    | _ => cases hx
theorem mQV_ok : ∀ (n : Nat) {X : Cx} {W : WX} {m : Mc} {q : Q} {a : Ex} {b : List Nat}, Cxt T ad tb C lv X W m → mQ tb n m q a = true → PE X a (tQV T ad b W C X.K q)
  | 0, X, W, m, q, a, b, c, h => by cases h
  | n + 1, X, W, m, q, a, b, c, h => by
    cases q with
    | not q =>
      unfold mQ at h
      dsimp only at h
      split at h
      · exact pe_imp (pe_notT (mQV_ok n c h)) vnot_ok
      · cases h
    | and x y =>
      unfold mQ at h
      dsimp only at h
      split at h
      · rw [Bool.and_eq_true] at h
        exact pe_imp (pe_andT (mQV_ok n c h.1) (pe_one (mQV_ok n c h.2))) vand_ok
      · rw [Bool.and_eq_true] at h
        exact pe_imp (pe_andT (mQV_ok n c h.1) (mQV_ok n c h.2)) vand_ok
      · cases h
    | or x y =>
      unfold mQ at h
      dsimp only at h
      split at h
      · rw [Bool.and_eq_true] at h
        exact pe_imp (pe_orT (mQV_ok n c h.1) (pe_one (mQV_ok n c h.2))) vor_ok
      · rw [Bool.and_eq_true] at h
        exact pe_imp (pe_orT (mQV_ok n c h.1) (mQV_ok n c h.2)) vor_ok
      · cases h
    | e x =>
      unfold mQ at h
      dsimp only at h
      split at h
      · rw [Bool.and_eq_true] at h
        exact pe_imp (mE_ok n c h.2) ve_ok
      · rw [Bool.and_eq_true] at h
        exact pe_imp (mE_ok n c h.2) ve_ok
end
end
end Dl
end

section
set_option Elab.async false
set_option linter.all false
set_option maxRecDepth 100000
set_option maxHeartbeats 1000000
/-! D42: does an L text say what the program's text says? statements. -/
namespace Dl
open PySem PySem.Spec PyProof.Rows L2
def unpl : E → E
  | .pl _ x => unpl x
  | x => x
/-- a comprehension that is stored on its own line -/
def swB (m : Mc) (y : Str) (py : Pos) (a : Ex) : Bool := (match m.sc.kind with | .function => true | _ => false) && decide (m.sc.names.lookup y = some .local) && (py.line == a.pos.line) && (match a with
  | .ListComp _ _ sc _ => !(sc.names.any fun (n, k) => n == y && (k == .local || k == .cell))
  | _ => false)
/-- a, b = x, y with names, stored from the right -/
def parB (m : Mc) (x y : Str) (px py : Pos) (a b : Ex) : Bool := (match m.sc.kind with | .function => true | _ => false) && decide (m.sc.names.lookup x = some .local) && decide (m.sc.names.lookup y = some .local) && (px.line == py.line) && decide (x ≠ y) && nostX a && nostX b &&
  !(foldedForSure 8 a && foldedForSure 8 b) && !(constantsAlone 8 a && constantsAlone 8 b)
section
variable (tb : Tb)
mutual
def mS : Nat → Mc → Dl.S → Stmt → Bool
  | 0, _, _, _ => false
  | n + 1, m, l, a =>
    match l with
    | .expr x => (match a with | .Expr a _ => noComp a && mE tb n m x a | _ => false)
    | .asg t x => (match a with
      | .Assign [tg] a _ =>
        if noComp a then nostX tg && (noTup tg && noList tg || noTup a) && mTg n m t tg && mE tb n m x a
        else (match t, tg, unpl x, a with
          | .nm i, .Name y py, .lc own elt gs, .ListComp b gs' sc p => decide (m.N[i]? = some y) && swB m y py (.ListComp b gs' sc p) && mLc tb n m own elt gs b gs' sc
          | _, _, _, _ => false)
      | _ => false)
    | .par i j x y => (match a with
      | .Assign [.Tuple [.Name nx px, .Name ny py] _ _] (.Tuple [a, b] _ _) _ => m.calm && decide (m.N[i]? = some nx) && decide (m.N[j]? = some ny) && decide (i ≠ j) && parB m nx ny px py a b && nost x && nost y && mE tb n m x a && mE tb n m y b
      | _ => false)
    | .put o i x => (match a with
      | .Assign [.Subscript a b _] c _ => noComp c && noSlc b && mE tb n m o a && mE tb n m i b && mE tb n m x c
      | _ => false)
    | .fld _ _ _ => false
    | .aug i o x => (match a with
      | .AugAssign (.Name y _) p a _ => decide (m.N[i]? = some y) && locB m y && decide (o = p) && (decide (o = .Add) || decide (o = .Sub)) && mE tb n m x a
      | _ => false)
    | .ret none => (match a with | .Return none _ => true | _ => false)
    | .ret (some x) => (match a with | .Return (some a) _ => mE tb n m x a | _ => false)
    | .ite c t e => (match a with | .If k a b _ => mQ tb n m c k && mSs n m t a && mSs n m e b | _ => false)
    | .for_ t it body => (match a with | .For tg iter bd [] _ => m.calm && itn it && noSet iter && mI tb n m it iter && mTg n m t tg && mSs n m body bd | _ => false)
    | .whl _ c body => (match a with | .While k bd [] _ => m.calm && mQ tb n m c k && mSs n m body bd | _ => false)
    | .brk => (match a with | .Break _ => true | _ => false)
    | .cnt => (match a with | .Continue _ => true | _ => false)
    | .pass => (match a with | .Pass _ => true | _ => false)
    | .raise c es => (match a with
      | .Raise (some (.Call (.Name x _) (a1 :: as) [] _)) none _ => m.calm && decide (tb.cn[c]? = some x) && tb.xc.contains c && glbB m.sc x && (a1 :: as).all nostX && mEs tb n m es (a1 :: as)
      | _ => false)
    | .try_ body hs => (match a with
      | .Try bd (h0 :: hs') [] [] _ => m.calm && mSs n m body bd && mHs n m hs (h0 :: hs')
      | _ => false)
def mSs : Nat → Mc → List Dl.S → List Stmt → Bool
  | 0, _, _, _ => false
  | n + 1, m, ls, as =>
    match ls, as with
    | [], [] => true
    | l :: ls, a :: as => mS n m l a && mSs n m ls as
    | _, _ => false
def mHs : Nat → Mc → List Dl.H → List ExceptHandler → Bool
  | 0, _, _, _ => false
  | n + 1, m, hs, as =>
    match hs, as with
    | [], [] => true
    | .mk c i sb :: hs, .ExceptHandler (some (.Name x _)) (some y) (s0 :: bd) _ :: as =>
      decide (tb.cn[c]? = some x) && glbB m.sc x && decide (m.N[i]? = some y) && decide (m.sc.names.lookup y = some .local) && mSs n { m with calm := false, xs := some i } sb (s0 :: bd) && mHs n m hs as
    | _, _ => false
end
end
theorem swaps_yes {m : Mc} {y : Str} {py pos : Pos} {a : Ex} {gs : List Comprehension} {sc : PySem.Scope} {l : Nat} {env : PySem.Env} (hs : env.scope = m.sc) (h : swB m y py (.ListComp a gs sc pos) = true) : swapsWith (.ListComp a gs sc pos) (some (.Name y py)) l env = pure true := by
  unfold swB at h
  simp only [Bool.and_eq_true, decide_eq_true_eq, Bool.not_eq_true'] at h
  obtain ⟨⟨⟨h1, h2⟩, h3⟩, h4⟩ := h
  have hk : env.scope.kind = .function := by
    rw [hs]
    split at h1
    · assumption
    · cases h1
  have hb : (env.blockKind == ScopeKind.function) = true := by
    show ((if env.scope.kind.isAnnotationScope then ScopeKind.function else env.scope.kind) == ScopeKind.function) = true
    rw [hk]
    rfl
  have hl : (env.kindOf y == some NameKind.local) = true := by
    show (env.scope.names.lookup y == some NameKind.local) = true
    rw [hs, h2]
    rfl
  show (pure (env.blockKind == .function && env.kindOf y == some .local && py.line == (Expr.ListComp a gs sc pos).pos.line && !(sc.names.any fun (n, k) => n == y && (k == .local || k == .cell))) : Sem Bool) = _
  rw [hb, hl, h3, h4]
  rfl
theorem par_yes {m : Mc} {x y : Str} {px py pt pt2 : Pos} {kt k2 : Nat} {a b : Ex} {env : PySem.Env} (hs : env.scope = m.sc) (h : parB m x y px py a b = true) : swappedStores [.Tuple [.Name x px, .Name y py] kt pt] (.Tuple [a, b] k2 pt2) env = pure (some [x, y]) := by
  unfold parB at h
  simp only [Bool.and_eq_true, decide_eq_true_eq, Bool.not_eq_true'] at h
  obtain ⟨⟨⟨⟨⟨⟨⟨⟨h1, h2⟩, h3⟩, h4⟩, h5⟩, h6⟩, h7⟩, h8⟩, h9⟩ := h
  have hk : env.scope.kind = .function := by
    rw [hs]
    split at h1
    · assumption
    · cases h1
  have hb : (env.blockKind != ScopeKind.function) = false := by
    show ((if env.scope.kind.isAnnotationScope then ScopeKind.function else env.scope.kind) != ScopeKind.function) = false
    rw [hk]
    rfl
  have hx : (env.kindOf x == some NameKind.local) = true := by
    show (env.scope.names.lookup x == some NameKind.local) = true
    rw [hs, h2]
    rfl
  have hy : (env.kindOf y == some NameKind.local) = true := by
    show (env.scope.names.lookup y == some NameKind.local) = true
    rw [hs, h3]
    rfl
  have hl : (py.line == px.line) = true := by rw [beq_iff_eq] at h4 ⊢; exact h4.symm
  have hyx : (x == y) = false := by simpa using h5
  have hyx2 : (y == x) = false := by simpa using Ne.symm h5
  unfold swappedStores
  simp only [List.length_cons, List.length_nil, hb, List.head?_cons, Option.map_some, Option.getD_some, List.filterMap_cons, List.filterMap_nil, hx, hy, Bool.true_and]
  simp only [PySem.Expr.pos, beq_self_eq_true, hl, if_true, List.eraseDups_cons, List.filter_cons, List.filter_nil, hyx, hyx2, Bool.not_false, List.eraseDups_nil, List.length_cons, List.length_nil, List.all_cons, List.all_nil, Bool.and_true, h8, h9]
  rw [if_neg (by decide)]
  rw [if_neg]
  · rfl
  · intro hh
    simp only [List.any_cons, List.any_nil, Bool.or_false, Bool.or_eq_true] at hh
    rcases hh with hh | hh
    · split at hh
      · cases h6
      · cases hh
    · split at hh
      · cases h7
      · cases hh
end Dl
end

section
set_option Elab.async false
set_option linter.all false
set_option maxRecDepth 100000
set_option maxHeartbeats 2000000
/-! D43: an L text that says what the program's text says does what it does: statements. -/
namespace Dl
open PySem PySem.Spec PyProof.Rows L2
/-- an exception's class with an own __init__ -/
def Rz (T : Pg) (ad : Ad) (P : Program) (w : World) (K : PySem.W.Frag) (mg : Str → Option Value) (base : Heap) (c : Nat) : Prop :=
  ∃ (fs : List Str) (fI : Addr) (fd : FuncData) (ps : List Str), fnm T ad c = fs.reverse ∧ fs.length ≤ 1000 ∧ OexC K (ad.cl c) ∧ PySem.W.findIn K (.ref (ad.cl c)) "__init__" = some (some (.ref fI)) ∧ PySem.W.typeIn K (.ref fI) = some (.type "function") ∧
    FnOk P w K mg base (L2.CX P w) 1 fI fd ps (spI K (ad.cl c) fs) ∧ Binds K fd ps []
/-- what exceptions' classes are -/
structure Gx (T : Pg) (ad : Ad) (tb : Tb) (P : Program) (w : World) (K : PySem.W.Frag) (mg : Str → Option Value) (base : Heap) : Prop where
  exm : Exf T ad K
  xf : ∀ (c : Nat) (k : Cl), T.cs[c]? = some k → k.exc = true → XfC K (ad.cl c) ∧ ∀ (f : Nat) (y : Str), tb.nms[f]? = some y → PySem.W.findIn K (.ref (ad.cl c)) y = some none
  cn : ∀ (c : Nat) (x : Str), tb.cn[c]? = some x → mg x = some (.ref (ad.cl c)) ∧ ∃ k, T.cs[c]? = some k
  rs : ∀ c, c ∈ tb.xc → Rz T ad P w K mg base c
/-- where a statement stands -/
structure Sxt (T : Pg) (ad : Ad) (tb : Tb) (C : List Nat → Nat → List D → Sto → R D) (lv : Nat) (X : Cx) (W : WX) (m : Mc) : Prop extends Cxt T ad tb C lv X W m where
  gx : Gx T ad tb X.prog X.w X.K X.mg X.base
  st : X.stack = X.env :: X.outer
  fr : X.env.frame = some X.env.locals
  pw : m.calm = true → PassesOwn (model X.prog X.w) X.A X.env X.xe
  xn : m.calm = true → ad.xa = none
  lv2 : 2 ≤ lv
section
variable {T : Pg} {ad : Ad} {tb : Tb} {C : List Nat → Nat → List D → Sto → R D} {lv : Nat} {X : Cx} {W : WX} {m : Mc}
theorem Gd.wx {K : PySem.W.Frag} {mg : Str → Option Value} (g : Gd T ad tb K mg) (x : Option (Addr × Addr × Nat × Nat)) : Gd T (ad.wx x) tb K mg :=
  ⟨g.dn, g.num, g.free, g.comb, g.nms, ⟨g.cf.cls, g.cf.kit⟩, ⟨g.ff.noat, g.ff.nd, g.ff.few⟩⟩
theorem Gx.wx {P : Program} {w : World} {K : PySem.W.Frag} {mg : Str → Option Value} {base : Heap} (g : Gx T ad tb P w K mg base) (x : Option (Addr × Addr × Nat × Nat)) : Gx T (ad.wx x) tb P w K mg base :=
  ⟨⟨g.exm.exm⟩, g.xf, g.cn, g.rs⟩
/-- the body of a try -/
theorem Sxt.tr (c : Sxt T ad tb C lv X W m) {W' : WX} {pn : List (Addr × Obj)} {xe : Value → Shared → Prop} (tk : Takes (X.tr pn xe) W') (hp : PassesOwn (model X.prog X.w) X.A X.env xe) (hc : m.calm = true) : Sxt T ad tb C lv (X.tr pn xe) W' m where
  gd := c.gd
  fn := c.fn
  dps := c.dps
  calm := c.calm
  rm := c.rm
  ck := ⟨c.ck.gd, c.ck.un, c.ck.sys⟩
  N := c.N
  nd := c.nd
  sc := c.sc
  fc := c.fc
  tk := tk
  cx := c.cx
  xs := c.xs
  xat := fun i h => by rw [c.cx hc] at h; cases h
  gx := c.gx
  st := c.st
  fr := c.fr
  pw := fun _ => hp
  xn := c.xn
  lv2 := c.lv2
/-- a clause's suite -/
theorem Sxt.suite (c : Sxt T ad tb C lv X W m) {a dx : Addr} {oe : Obj} {c0 i : Nat} {k : Cl} {pn : List (Addr × Obj)} (hk : T.cs[c0]? = some k) (he : k.exc = true) (hz : Zc (.ref (ad.cl c0)) (some dx) oe) (hf : ∃ vs, oe.data = .fields vs) :
    Sxt T (ad.wx (some (a, dx, c0, i))) tb C lv (X.suite a ((a, oe) :: pn)) noX { m with calm := false, xs := some i } where
  gd := c.gd.wx _
  fn := fun h => by cases h
  dps := c.dps
  calm := rfl
  rm := fun h => by cases h
  ck := ⟨c.ck.gd, c.ck.un, c.ck.sys⟩
  N := c.N
  nd := c.nd
  sc := c.sc
  fc := c.fc
  tk := fun u s' ⟨_, _, _, _, _, _, _, _, _, _, _, _, _, _, _, _, z⟩ => z.elim
  cx := fun h => by cases h
  xs := fun p h => by cases h; rfl
  xat := fun j hj b f x y p q hn hy => by
    cases hj
    have hn' : NmAt (X.suite a ((a, oe) :: pn)) i x := let z := c.toCxt.nm (i := i) (x := x) hn; ⟨z.at_, z.vis, z.nd, z.nc⟩
    have e := (c.gd.wx (some (a, dx, c0, i))).nms _ _ hy
    subst e
    obtain ⟨x1, x2⟩ := c.gx.xf c0 k hk he
    exact pe_imp (pe_xf (T := x1) (x2 f _ hy) hz hf hn'.pe (base_ok rfl)) (xat_ok (ad := ad.wx (some (a, dx, c0, i))) (c.gd.wx (some (a, dx, c0, i))).ff rfl)
  gx := c.gx.wx _
  st := c.st
  fr := c.fr
  pw := fun h => by cases h
  xn := fun h => by cases h
  lv2 := c.lv2
end
theorem asg_sub {o i : Ex} {pos : Pos} {env : PySem.Env} (h : noSlc i = true) : ∀ v, assign (.Subscript o i pos) env v = (do
      let ov ← holding [v] (eval o env)
      let iv ← holding [v, ov] (eval i env)
      standAt pos
      holding [v, ov, iv] (setItem ov iv v)
      release [v, ov, iv] []) := by
  intro v
  cases i <;> first | rfl | skip
  rename_i x y z w
  cases z with
  | none => cases h
  | some _ => rfl
theorem unpl_ok {T : Pg} {ad : Ad} {b : List Nat} {W : WX} {C : List Nat → Nat → List D → Sto → R D} : ∀ (x : E) s H P, tE T ad b W (ev T C b x) s H P → tE T ad b W (ev T C b (unpl x)) s H P
  | .pl k x, s, H, P, h => unpl_ok x s H P (pl_ok s H P h)
  | .cst _, _, _, _, h => h
  | .var _, _, _, _, h => h
  | .bin _ _ _, _, _, _, h => h
  | .neg _, _, _, _, h => h
  | .not _, _, _, _, h => h
  | .and _ _, _, _, _, h => h
  | .or _ _, _, _, _, h => h
  | .ite _ _ _, _, _, _, h => h
  | .cmp _ _ _, _, _, _, h => h
  | .chn _ _ _ _ _, _, _, _, h => h
  | .tup _, _, _, _, h => h
  | .lst _, _, _, _, h => h
  | .star _, _, _, _, h => h
  | .sub _ _, _, _, _, h => h
  | .slc _ _ _, _, _, _, h => h
  | .rev _, _, _, _, h => h
  | .attr _ _, _, _, _, h => h
  | .xat _ _, _, _, _, h => h
  | .call _ _, _, _, _, h => h
  | .callK _ _ _, _, _, _, h => h
  | .new _ _, _, _, _, h => h
  | .prim _ _, _, _, _, h => h
  | .meth _ _ _, _, _, _, h => h
  | .umeth _ _ _, _, _, _, h => h
  | .mut _ _ _, _, _, _, h => h
  | .lc _ _ _, _, _, _, h => h
section
variable {T : Pg} {tb : Tb} {C : List Nat → Nat → List D → Sto → R D} {lv : Nat}
mutual
theorem mS_ok : ∀ (n : Nat) {ad : Ad} {X : Cx} {W : WX} {m : Mc} {l : Dl.S} {a : Stmt} {b : List Nat}, Sxt T ad tb C lv X W m → mS tb n m l a = true → PS X a (tX T ad b W (exec T C b l))
  | 0, ad, X, W, m, l, a, b, c, h => by cases h
  | n + 1, ad, X, W, m, l, a, b, c, h => by
    cases l with
    | expr x =>
      unfold mS at h
      dsimp only at h
      split at h
      · rw [Bool.and_eq_true] at h
        exact ps_imp (ps_expr (mE_ok n c.toCxt h.2) (swaps_no h.1)) expr_ok
      · cases h
    | asg t x =>
      unfold mS at h
      dsimp only at h
      split at h
      · split at h
        · rename_i hnc
          simp only [Bool.and_eq_true] at h
          obtain ⟨⟨⟨h1, h2⟩, h3⟩, h4⟩ := h
          exact ps_imp (ps_asg (mE_ok n c.toCxt h4) (mTg_ok n c.toCxt h3) (sole_no hnc) (stores_no h2) (by rw [asg_cons h1]; rfl)) asg_ok
        · split at h
          · rename_i i y py own elt gs bx gs' sc p hu _
            simp only [Bool.and_eq_true, decide_eq_true_eq] at h
            obtain ⟨⟨h1, h2⟩, h3⟩ := h
            have hloc : X.env.scope.names.lookup y = some .local := by
              rw [c.sc]
              unfold swB at h2
              simp only [Bool.and_eq_true, decide_eq_true_eq] at h2
              exact h2.1.1.2
            refine ps_imp ((mLc_ok (b := b) n c.toCxt h3).2 (by rw [c.N]; exact h1) hloc (swaps_yes c.sc h2)) fun D' s H q => ?_
            have q1 := asg_ok (K := X.K) D' s H q
            have q2 := unpl_ok x s H _ q1
            rw [hu] at q2
            exact q2
          · cases h
      · cases h
    | par i j x y =>
      unfold mS at h
      dsimp only at h
      split at h
      · simp only [Bool.and_eq_true, decide_eq_true_eq] at h
        obtain ⟨⟨⟨⟨⟨⟨⟨⟨h1, h2⟩, h3⟩, h4⟩, h5⟩, h6⟩, h7⟩, h8⟩, h9⟩ := h
        have h5' := h5
        unfold parB at h5'
        simp only [Bool.and_eq_true, decide_eq_true_eq] at h5'
        obtain ⟨⟨⟨⟨⟨⟨⟨⟨_, k2⟩, k3⟩, _⟩, _⟩, k6⟩, k7⟩, _⟩, _⟩ := h5'
        exact ps_imp (ps_par (c.calm.trans h1) c.nd (by rw [c.N]; exact h2) (by rw [c.N]; exact h3) h4 (by rw [c.sc]; exact k2) (by rw [c.sc]; exact k3)
          (pa_cons (mE_ok n c.toCxt h8) (pa_cons (mE_ok n c.toCxt h9) pa_nil (star_cons k7)) (star_cons k6)) (par_yes c.sc h5) (sole_no rfl)) par_ok
      · cases h
    | put o i x =>
      unfold mS at h
      dsimp only at h
      split at h
      · simp only [Bool.and_eq_true] at h
        obtain ⟨⟨⟨⟨h1, h0⟩, h2⟩, h3⟩, h4⟩ := h
        exact ps_imp (ps_asg (mE_ok n c.toCxt h4) (pg_sub (mE_ok n c.toCxt h2) (mE_ok n c.toCxt h3) set_list (asg_sub h0)) (sole_no h1) (stores_no rfl) rfl) put_ok
      · cases h
    | fld _ _ _ => unfold mS at h; cases h
    | aug i o x =>
      unfold mS at h
      dsimp only at h
      split at h
      · simp only [Bool.and_eq_true, decide_eq_true_eq, Bool.or_eq_true] at h
        obtain ⟨⟨⟨⟨h1, h2⟩, rfl⟩, h4⟩, h5⟩ := h
        obtain ⟨g1, g2⟩ := c.toCxt.loc h2
        rcases h4 with rfl | rfl
        · exact ps_imp (ps_aug c.nd (by rw [c.N]; exact h1) g1 (mE_ok n c.toCxt h5) ip_add g2) aug_add
        · exact ps_imp (ps_aug c.nd (by rw [c.N]; exact h1) g1 (mE_ok n c.toCxt h5) ip_sub g2) aug_sub
      · cases h
    | ret x =>
      cases x with
      | none =>
        unfold mS at h
        dsimp only at h
        split at h
        · exact ps_imp ps_retN retN_ok
        · cases h
      | some x =>
        unfold mS at h
        dsimp only at h
        split at h
        · exact ps_imp (ps_ret (mE_ok n c.toCxt h)) ret_ok
        · cases h
    | ite q t e =>
      unfold mS at h
      dsimp only at h
      split at h
      · simp only [Bool.and_eq_true] at h
        obtain ⟨⟨h1, h2⟩, h3⟩ := h
        exact ps_imp (ps_if (mQ_ok n c.toCxt h1) (mSs_ok n c h2) (mSs_ok n c h3)) ite_okS
      · cases h
    | for_ t it body =>
      unfold mS at h
      dsimp only at h
      split at h
      · simp only [Bool.and_eq_true] at h
        obtain ⟨⟨⟨⟨⟨h1, h2⟩, h3⟩, h4⟩, h5⟩, h6⟩ := h
        exact ps_imp (ps_for (c.pw h1) (c.calm.trans h1) (mI_ok n c.toCxt h4) (mTg_ok n c.toCxt h5) (mSs_ok n c h6) (fold_no h3)) (forI_ok h2)
      · cases h
    | whl k q body =>
      unfold mS at h
      dsimp only at h
      split at h
      · simp only [Bool.and_eq_true] at h
        obtain ⟨⟨h1, h2⟩, h3⟩ := h
        exact ps_imp (ps_while (c.pw h1) (mQ_ok n c.toCxt h2) (mSs_ok n c h3)) whl_ok
      · cases h
    | brk =>
      unfold mS at h
      dsimp only at h
      split at h
      · exact ps_imp ps_break brk_ok
      · cases h
    | cnt =>
      unfold mS at h
      dsimp only at h
      split at h
      · exact ps_imp ps_continue cnt_ok
      · cases h
    | pass =>
      unfold mS at h
      dsimp only at h
      split at h
      · exact ps_imp ps_pass pass_ok
      · cases h
    | raise k es =>
      unfold mS at h
      dsimp only at h
      split at h
      · simp only [Bool.and_eq_true, decide_eq_true_eq] at h
        obtain ⟨⟨⟨⟨⟨h1, h2⟩, h3⟩, h4⟩, h5⟩, h6⟩ := h
        obtain ⟨fs, fI, fd, ps, r1, r2, r3, r4, r5, r6, r7⟩ := c.gx.rs _ (List.contains_iff_mem.mp h3)
        obtain ⟨g1, g2, g3⟩ := c.toCxt.gl h4
        rw [List.all_cons, Bool.and_eq_true] at h5
        refine ps_imp (ps_raise (c.calm.trans h1) c.tk (pmk_oex r3 r4 r5 r6 ((c.rm h1).toRoom.mono c.lv2) r7 .nil (passes_call c.tk fun _ _ _ _ z => z.elim) g1 (c.gx.cn _ _ h2).1 (mEs_ok n c.toCxt h6) g2 (star_cons h5.1) (star_none h5.2))) (raise_ok r1 r2)
      · cases h
    | try_ body hs =>
      unfold mS at h
      dsimp only at h
      split at h
      · simp only [Bool.and_eq_true] at h
        obtain ⟨⟨h1, h2⟩, h3⟩ := h
        obtain ⟨k1, k2⟩ := mHs_ok (b := b) n c h1 h3
        exact ps_imp (ps_tryN c.st c.fr c.nd c.tk (fun W' pn xe tk hp => mSs_ok n (c.tr tk hp h1) h2) k1) (try_ok (c.xn h1) c.gx.exm k2)
      · cases h
theorem mSs_ok : ∀ (n : Nat) {ad : Ad} {X : Cx} {W : WX} {m : Mc} {ls : List Dl.S} {as : List Stmt} {b : List Nat}, Sxt T ad tb C lv X W m → mSs tb n m ls as = true → PSs X as (tX T ad b W (execs T C b ls))
  | 0, ad, X, W, m, ls, as, b, c, h => by cases h
  | n + 1, ad, X, W, m, ls, as, b, c, h => by
    match ls, as, h with
    | [], [], _ => exact pss_imp pss_nil snil_ok
    | l :: ls, a :: as, h =>
      unfold mSs at h
      dsimp only at h
      rw [Bool.and_eq_true] at h
      exact pss_imp (pss_cons (mS_ok n c h.1) (mSs_ok n c h.2)) scons_ok
    | [], _ :: _, h => unfold mSs at h; cases h
    | _ :: _, [], h => unfold mSs at h; cases h
theorem mHs_ok : ∀ (n : Nat) {ad : Ad} {X : Cx} {W : WX} {m : Mc} {hs : List Dl.H} {as : List ExceptHandler} {b : List Nat}, Sxt T ad tb C lv X W m → m.calm = true → mHs tb n m hs as = true → HsN X as (hs.map (clz T ad b C)) ∧ ∀ h, h ∈ hs → ∃ k, T.cs[hcl h]? = some k
  | 0, ad, X, W, m, hs, as, b, c, _, h => by cases h
  | n + 1, ad, X, W, m, hs, as, b, c, hc, h => by
    unfold mHs at h
    split at h
    · exact ⟨.nil, fun h m => absurd m List.not_mem_nil⟩
    · rename_i c1 i sb hs x p y s0 bd q as
      simp only [Bool.and_eq_true, decide_eq_true_eq] at h
      obtain ⟨⟨⟨⟨⟨h1, h2⟩, h3⟩, h4⟩, h5⟩, h6⟩ := h
      obtain ⟨k1, k2⟩ := mHs_ok (b := b) n c hc h6
      obtain ⟨g1, g2, g3⟩ := c.toCxt.gl h2
      obtain ⟨e1, e2⟩ := c.gx.cn _ _ h1
      refine ⟨.cons ⟨g1, g2, .inl e1⟩ (by rw [c.N]; exact h3) (by show X.env.scope.names.lookup y = _; rw [c.sc]; exact h4) (fun a oe cls d pn hz hf => ⟨fun pins s σ H D I q => ?_⟩) k1, fun h m => ?_⟩
      · obtain ⟨c0, dx, k, hk, hexc, rfl, rfl, q⟩ := q
        exact (mSs_ok n (c.suite hk hexc hz hf) h5).run pins s σ H D I q
      · rcases List.mem_cons.mp m with rfl | m
        · exact e2
        · exact k2 h m
    · cases h
end
end
end Dl
end

section
set_option Elab.async false
set_option linter.all false
set_option maxRecDepth 100000
set_option maxHeartbeats 2000000
/-! D44: every def does what its L text does. -/
namespace Dl
open PySem PySem.Spec PyProof.Rows L2
/-- how a def's parameters are bound -/
def BnD (d : He.DefD) (ps : List Str) : Prop := ∀ (kV doc pm : Value) (an : Option Addr) (cdv ct : Value), BdG (PySem.W.fnOf d.name d.qual d.params d.body d.scope .none kV doc pm an cdv ct) ps
def BnK (d : He.DefD) (ps ks : List Str) (pl : List Nat) : Prop := ∀ (kV doc pm : Value) (an : Option Addr) (cdv ct : Value), KbG0 (PySem.W.fnOf d.name d.qual d.params d.body d.scope .none kV doc pm an cdv ct) ps ks pl
/-- a def's text, its L text -/
structure DefT (T : Pg) (tb : Tb) (k : Nat) (d : He.DefD) (ps N : List Str) : Prop where
  ds : ∃ D, T.ds[k]? = some D ∧ D.np = ps.length ∧ D.nn = N.length ∧ ∃ n, mSs tb n ⟨N, d.scope, d.scope, true, none⟩ D.body d.body = true
  S : FnScope N ps d.scope
  bd : BnD d ps
  kb : ∀ ks pl, (k, ks, pl) ∈ tb.kw → BnK d ps ks pl
section
variable {T : Pg} {ad : Ad} {tb : Tb} {bs : List Nat} {W : WX}
theorem start_sta {N : List Str} {vs : List V} {ds : List D} {H : Hp} {mu : List Addr} {nu : Addr → Prop} {S : Sto} {np nn : Nat} (st : Sta T ad bs H mu nu [] [] S) (rl : RepL T ad H mu nu vs ds) (hn : nn = N.length) (hp : ds.length = np) :
    Sta T ad bs H mu nu (L2.start N vs) (ds.map some ++ List.replicate (nn - np) none) S := by
  have hl := rl.length
  refine st.withE (by unfold L2.start; simp only [List.length_append, List.length_map, List.length_replicate]; omega) fun i d h => ?_
  have hi : i < ds.length := by
    by_cases hi : i < ds.length
    · exact hi
    · rw [List.getElem?_append_right (by rw [List.length_map]; omega), List.getElem?_replicate] at h
      split at h <;> cases h
  rw [List.getElem?_append_left (by rw [List.length_map]; exact hi), List.getElem?_map] at h
  cases hd : ds[i]? with
  | none => rw [hd] at h; cases h
  | some d' =>
    rw [hd] at h
    cases h
    obtain ⟨v, hv, r⟩ := rl.get hd
    refine ⟨v, ?_, .of r⟩
    unfold L2.start
    rw [List.getElem?_append_left (by rw [List.length_map]; omega), List.getElem?_map, hv]
    rfl
theorem body_ok {k n : Nat} {D : Def} {N : List Str} {vs : List V} {H : Hp} {Q : VK} {E : XK} {mu : List Addr} {nu : Addr → Prop} {S : Sto} {ds : List Dl.D} (hk : T.ds[k]? = some D) (hn : D.nn = N.length) (st : Sta T ad bs H mu nu [] [] S) (rl : RepL T ad H mu nu vs ds)
    (p : Pst T ad bs (wX E) [] [] (callF T (n + 1) bs k ds S) H mu nu [] Q) : tX T ad (S.length :: bs) (wX E) (execs T (callF T n) (S.length :: bs) D.body) { nx := fun _ H' => Q .non H', rt := Q } (L2.start N vs) H := by
  rw [callF, hk] at p
  dsimp only at p
  split at p
  case isFalse => exact p.elim
  rename_i hh
  refine ⟨mu, nu, _, S, start_sta st.enter rl hn hh.1, ?_⟩
  have hl : mu.length = S.length := st.num.symm
  have hc : ∀ β, β ∈ bs → β ∈ S.length :: bs ∧ β ≤ S.length := fun β h => ⟨List.mem_cons_of_mem _ h, st.bse β h⟩
  cases hr : execs T (callF T n) (S.length :: bs) D.body (ds.map some ++ List.replicate (D.nn - D.np) none) S with
  | er => rw [hr] at p; exact p.elim
  | bk e2 S2 => rw [hr] at p; exact p.elim
  | ct e2 S2 => rw [hr] at p; exact p.elim
  | nx e2 S2 =>
    rw [hr] at p
    intro s2 H2 mu2 nu2 x2 st2
    dsimp only at p
    cases hv : leave S.length .non S2 with
    | none => rw [hv] at p; exact p.elim
    | some y =>
      obtain ⟨d3, S3⟩ := y
      rw [hv] at p
      obtain ⟨mu3, nu3, fp3, x3, st3, ro3, ow3, fr3⟩ := leave_ok x2 st.trk hl List.mem_cons_self hc st2 (.of .non) .nil (fun a m => absurd m List.not_mem_nil) hv
      exact p .non H2 mu3 nu3 fp3 x3 st3 ro3 ow3 fun a m => .inr (fr3 a m)
  | rt d S2 =>
    rw [hr] at p
    intro v s2 e2 H2 mu2 nu2 fp x2 st2 ro ow fr
    dsimp only at p
    cases hv : leave S.length d S2 with
    | none => rw [hv] at p; exact p.elim
    | some y =>
      obtain ⟨d3, S3⟩ := y
      rw [hv] at p
      obtain ⟨mu3, nu3, fp3, x3, st3, ro3, ow3, fr3⟩ := leave_ok x2 st.trk hl List.mem_cons_self hc st2 ro ow fr hv
      exact p v H2 mu3 nu3 fp3 x3 st3 ro3 ow3 fun a m => .inr (fr3 a m)
  | ex c xs e2 S2 =>
    rw [hr] at p
    intro s2 H2 mu2 nu2 dx Vs x2 st2 rl2 nx hx
    dsimp only at p
    cases hv : leaveL S.length xs S2 with
    | none => rw [hv] at p; exact p.elim
    | some y =>
      obtain ⟨ys, S3⟩ := y
      rw [hv] at p
      obtain ⟨mu3, x3, st3, rl3⟩ := leaveL_ok x2 hl List.mem_cons_self hc st2 rl2 hv
      exact p H2 mu3 nu2 dx Vs x3 st3 rl3 nx hx
end
section
variable {T : Pg} {ad : Ad} {tb : Tb} {P : Program} {w : World} {K : PySem.W.Frag} {mg : Str → Option Value} {base : Heap}
theorem tab_ok (gd : Gd T ad tb K mg) (gx : Gx T ad tb P w K mg base) (dps : ∀ (k : Nat) (x : Str), tb.dn[k]? = some (some x) → ∃ ps, tb.ps[k]? = some ps) (hsys : ∃ o, base.get? sysModules = some o) (hxa : ad.xa = none)
    (hfn : ∀ (k : Nat) (ps : List Str), tb.ps[k]? = some ps → ∃ d N fd, FunD K d.name d.qual d.params d.body d.scope [] [] (ad.fn k) fd ∧ DefT T tb k d ps N) : ∀ n, FnF T ad tb (callF T n) (2 * n + 2) P w K mg base
  | 0, k, ps, hk => by
    obtain ⟨d, N, fd, F, D⟩ := hfn k ps hk
    obtain ⟨oc, od, dV, kV, doc, pm, an, cdv, ct, osl, rfl, lk, hcd, hD, hK⟩ := F.ex
    rcases hD with ⟨_, rfl⟩ | ⟨e, _⟩
    · exact ⟨_, ⟨fun vs H Q E h => by obtain ⟨bs, mu, nu, S, ds, st, rl, p⟩ := h; exact p.elim, fun A outer s H args us vs Q E _ _ _ _ h => by obtain ⟨bs, mu, nu, S, ds, st, rl, p⟩ := h; exact p.elim⟩, D.bd kV doc pm an cdv ct, fun ks pl h => D.kb ks pl h kV doc pm an cdv ct⟩
    · exact absurd rfl e
  | n + 1, k, ps, hk => by
    have ih := tab_ok gd gx dps hsys hxa hfn n
    obtain ⟨d, N, fd, F, D⟩ := hfn k ps hk
    obtain ⟨oc, od, dV, kV, doc, pm, an, cdv, ct, osl, rfl, lk, hcd, hD, hK⟩ := F.ex
    rcases hD with ⟨_, rfl⟩ | ⟨e, _⟩
    case inr => exact absurd rfl e
    obtain ⟨L, hL, hnp, hnn, m, hm⟩ := D.ds
    refine ⟨_, fn_G (k := 2 * n + 3) (N := N) lk hcd D.S (fun vs H Q E h => ?_) fun A outer s H vs Q E hr h => ?_, D.bd kV doc pm an cdv ct, fun ks pl h => D.kb ks pl h kV doc pm an cdv ct⟩
    · obtain ⟨bs, mu, nu, S, ds, st, rl, p⟩ := h
      rw [callF, hL] at p
      dsimp only at p
      split at p
      · rename_i hh
        rw [rl.length, hh.1, hnp]
      · exact p.elim
    · obtain ⟨bs, mu, nu, S, ds, st, rl, p⟩ := h
      refine ⟨_, mSs_ok (b := S.length :: bs) (W := wX E) m (C := callF T n) (lv := 2 * n + 2) (m := ⟨N, d.scope, d.scope, true, none⟩) (ad := ad) ?_ hm, body_ok hL hnn st rl p⟩
      exact {
        gd := gd
        fn := fun _ => ih
        dps := dps
        calm := rfl
        rm := fun _ => hr.mono (by omega)
        ck := ⟨hr.gd, by
          have h1 : (A.deeper (envOfC d.qual d.scope s.heap.objs.size (ad.fn k) cdv)).units + 16 * (2 * n + 3) + 200 < cLine := hr.un
          show (A.deeper (envOfC d.qual d.scope s.heap.objs.size (ad.fn k) cdv)).units + 200 < cLine
          omega, hsys⟩
        N := rfl
        nd := D.S.nd
        sc := rfl
        fc := fun _ _ => rfl
        tk := takes_of rfl rfl rfl rfl
        cx := fun _ => rfl
        xs := fun p h => by rw [hxa] at h; cases h
        xat := fun i h => by cases h
        gx := gx
        st := rfl
        fr := rfl
        pw := fun _ => passes_of rfl
        xn := fun _ => hxa
        lv2 := by omega }
end
end Dl
end

section
set_option Elab.async false
set_option linter.all false
set_option maxRecDepth 100000
set_option maxHeartbeats 2000000
/-! D45: what the head says of the module's names. -/
namespace Dl
open PySem PySem.Spec PyProof.Rows L2
/-- where defs, classes stand -/
def adK (tb : Tb) (fn : List He.DefD) (K : PySem.W.Frag) : Ad where
  fn := fun k => match fn[k]? with
    | some d => He.fAd K d.at_
    | none => 0
  cl := fun c => He.ga K (tb.cn.getD c Str.empty)
  nm := fun f => tb.nms.getD f Str.empty
  xa := none
def oexB (K : PySem.W.Frag) (C : Addr) : Bool := (match K.lookup C with
  | some ⟨.type "type", _, .cls cd, sl⟩ => (match cd.mro, sl.toList with
    | .ref D :: bm, [_, _, _, _, some (.builtin n), _] => D == C && n == "ValueError.__new__" && !cd.hasDel && cd.hasDict && PySem.HandSPX.refsVE bm
    | _, _ => false)
  | _ => false) && He.eqO (PySem.W.findIn K (.ref C) "__setattr__") (some (some (.builtin "object.__setattr__"))) && decide (PySem.W.subIn K (.ref C) (.type "BaseException") = some true) && decide (PySem.W.typeIn K (.ref C) = some (.type "type")) && PySem.W.keepIn K (.ref C)
theorem oexB_ok {K : PySem.W.Frag} {C : Addr} (h : oexB K C = true) : OexC K C := by
  unfold oexB at h
  simp only [Bool.and_eq_true, decide_eq_true_eq] at h
  obtain ⟨⟨⟨⟨h1, h2⟩, h3⟩, h4⟩, h5⟩ := h
  refine ⟨?_, He.eqO_ok h2, h3, h4, h5⟩
  split at h1
  · rename_i dd cd sl ho
    split at h1
    · rename_i D bm k0 k1 k2 k3 n k5 hm hs
      simp only [Bool.and_eq_true, beq_iff_eq, Bool.not_eq_true'] at h1
      obtain ⟨⟨⟨⟨rfl, rfl⟩, hdel⟩, hd⟩, hr⟩ := h1
      obtain ⟨nm, bs, mro, ns, qn, hd', sn, sub, ab, col, del⟩ := cd
      dsimp only at hm hdel hd
      subst hm hdel hd
      have hsl : sl = #[k0, k1, k2, k3, some (.builtin "ValueError.__new__"), k5] := by
        obtain ⟨l⟩ := sl
        simp only at hs
        rw [hs]
      subst hsl
      exact ⟨nm, qn, ns, bs, bm, sn, sub, ab, col, dd, k0, k1, k2, k3, k5, ho, hr⟩
    · cases h1
  · cases h1
def iniB (K : PySem.W.Frag) (B : Addr) : Bool := He.eqO (PySem.W.specialIn K (.ref B) "__getattribute__") (some (some (.builtin "type.__getattribute__"))) && PySem.W.readsIn K B (.type "type") && (match PySem.W.findCls K (.ref B) (.type "type") "__init__" with
  | some (.val (.builtin n)) => n == "ValueError.__init__"
  | _ => false)
theorem iniB_ok {K : PySem.W.Frag} {B : Addr} (h : iniB K B = true) : IniB K B := by
  unfold iniB at h
  simp only [Bool.and_eq_true] at h
  obtain ⟨⟨h1, h2⟩, h3⟩ := h
  refine ⟨He.eqO_ok h1, _, h2, ?_⟩
  split at h3
  · rename_i n hn
    rw [hn, beq_iff_eq.mp h3]
  · cases h3
def cBody : Stmt → List Stmt
  | .ClassDef _ _ _ b _ _ _ _ _ _ _ => b
  | _ => []
/-- an __init__'s form -/
def initM : List Stmt → Option (Str × List Str × List Str)
  | [.Expr (.Call (.Attribute (.Name B _) y p2) [.Name s1 _, .Constant (.str _) _ _] [] p5) _, .Assign [.Attribute (.Name s2 _) f _] (.Name g _) _] =>
    if y = ("__init__" : Str) ∧ s1 = s2 ∧ (p2.endLine == p5.line) = true then some (B, [s1, g], [f]) else none
  | [.Expr (.Call (.Attribute (.Name B _) y p2) [.Name s1 _, .Constant (.str _) _ _] [] p5) _, .Assign [.Attribute (.Name s2 _) f _] (.Name g _) _, .Assign [.Attribute (.Name s3 _) f2 _] (.Name g2 _) _] =>
    if y = ("__init__" : Str) ∧ s1 = s2 ∧ s1 = s3 ∧ (p2.endLine == p5.line) = true then some (B, [s1, g, g2], [f, f2]) else none
  | _ => none
theorem initM_ok {body : List Stmt} {B : Str} {ps fs : List Str} (h : initM body = some (B, ps, fs)) : InitB body B ps fs ∧ ps.length = fs.length + 1 ∧ fs.length ≤ 2 := by
  unfold initM at h
  split at h
  · split at h
    · rename_i hh
      cases h
      obtain ⟨rfl, rfl, h3⟩ := hh
      exact ⟨.one h3, rfl, by simp⟩
    · cases h
  · split at h
    · rename_i hh
      cases h
      obtain ⟨rfl, rfl, rfl, h3⟩ := hh
      exact ⟨.two h3, rfl, by simp⟩
    · cases h
  · cases h
def nameB (x : Str) : Bool := !(x == ("__debug__" : Str)) && !(x == ("__classdict__" : Str))
/-- a def's scope -/
def scpB (N ps : List Str) (sc : PySem.Scope) : Bool := (match sc.kind with | .function => true | _ => false) && !sc.isCoroutine && !sc.isGenerator && decide N.Nodup && decide (N.take ps.length = ps) && (ps.all fun x => match sc.names.lookup x with
  | some .local => true
  | some .cell => true
  | _ => false) && sc.names.all fun y => match y.2 with
  | .free => false
  | _ => true
theorem scpB_ok {N ps : List Str} {sc : PySem.Scope} (h : scpB N ps sc = true) : FnScope N ps sc := by
  unfold scpB at h
  simp only [Bool.and_eq_true, decide_eq_true_eq, Bool.not_eq_true'] at h
  obtain ⟨⟨⟨⟨⟨⟨h1, h2⟩, h3⟩, h4⟩, h5⟩, h6⟩, h7⟩ := h
  refine ⟨?_, h2, h3, h4, h5, fun x hx => ?_, fun y hy e => ?_⟩
  · split at h1
    · assumption
    · cases h1
  · have := List.all_eq_true.mp h6 x hx
    split at this
    · exact .inl ‹_›
    · exact .inr ‹_›
    · cases this
  · have := List.all_eq_true.mp h7 y hy
    rw [e] at this
    cases this
/-- .. and its text, its L text -/
def defB (T : Pg) (tb : Tb) (k : Nat) (d : He.DefD) (ps N : List Str) : Bool := (match T.ds[k]? with
  | some D => decide (D.np = ps.length) && decide (D.nn = N.length) && mSs tb 1000 ⟨N, d.scope, d.scope, true, none⟩ D.body d.body
  | none => false) && scpB N ps d.scope
theorem defB_ok {T : Pg} {tb : Tb} {k : Nat} {d : He.DefD} {ps N : List Str} (h : defB T tb k d ps N = true) (hb : BnD d ps) (hk : ∀ ks pl, (k, ks, pl) ∈ tb.kw → BnK d ps ks pl) : DefT T tb k d ps N := by
  unfold defB at h
  rw [Bool.and_eq_true] at h
  refine ⟨?_, scpB_ok h.2, hb, hk⟩
  have h1 := h.1
  split at h1
  · rename_i D hD
    simp only [Bool.and_eq_true, decide_eq_true_eq] at h1
    exact ⟨D, hD, h1.1.1, h1.1.2, _, h1.2⟩
  · cases h1
section
variable (T : Pg) (tb : Tb) (fn : List He.DefD) (xi : List (Nat × He.DefD))
def glB (K : PySem.W.Frag) (x : Str) (a : Addr) : Bool := He.eqO (PySem.W.nsIn K mainGlobals x) (some (some (.ref a)))
def tysL : List Ty := [.int, .bool, .str, .tuple, .list, .dict, .set, .none]
/-- what is asked of the written part -/
def exB (K : PySem.W.Frag) : Bool :=
  ((List.range tb.dn.length).all fun k => match tb.dn[k]? with
    | some (some x) => glB K x ((adK tb fn K).fn k) && PySem.W.keepIn K (.ref ((adK tb fn K).fn k))
    | _ => true) &&
  (tb.nums.all fun p => (He.Fa.int p.1 p.2).ok K) && (tb.free.all fun x => He.eqO (PySem.W.nsIn K mainGlobals x) (some none)) &&
  (!tb.comb || He.eqO (PySem.W.nsIn K mainGlobals "comb") (some (some (.builtin "math.comb")))) &&
  (tysL.all fun t => tysL.all fun u => decide (PySem.W.kitOne K (tyU (adK tb fn K) t) (tyU (adK tb fn K) u) = some (subTy t u))) &&
  ((List.range T.cs.length).all fun c => match T.cs[c]? with
    | some k => k.exc && glB K (tb.cn.getD c Str.empty) ((adK tb fn K).cl c) && xfB K ((adK tb fn K).cl c) && (tb.nms.all fun y => He.eqO (PySem.W.findIn K (.ref ((adK tb fn K).cl c)) y) (some none)) &&
      (List.range T.cs.length).all fun h => decide (PySem.W.exmOne K (.ref ((adK tb fn K).cl c)) (.ref ((adK tb fn K).cl h)) = some (k.sup.contains h))
    | none => true) &&
  (xi.all fun p => oexB K ((adK tb fn K).cl p.1) && He.eqO (PySem.W.findIn K (.ref ((adK tb fn K).cl p.1)) "__init__") (some (some (.ref (He.fAd K p.2.at_)))) && decide (PySem.W.typeIn K (.ref (He.fAd K p.2.at_)) = some (.type "function")) && (match initM p.2.body with
    | some (B, _, _) => glB K B (He.ga K B) && iniB K (He.ga K B)
    | none => false)) && (K.lookup sysModules).isSome
/-- what is asked of the texts -/
def stB : Bool := decide (tb.cn.length = T.cs.length) && (T.cs.all fun k => decide ((k.fs.map fun f => tb.nms.getD f Str.empty).Nodup) && decide (k.fs.length < 1000)) && decide (tb.xc = xi.map (·.1)) && decide (tb.dn.length = tb.ps.length) && (xi.all fun p => match initM p.2.body, T.cs[p.1]? with
  | some (B, ps, fs), some k => decide ((k.fs.map fun f => tb.nms.getD f Str.empty) = fs.reverse) && scpB ps ps p.2.scope && decide (p.2.scope.names.lookup B = some .globalImplicit) && nameB B && ps.all nameB && (fs.all fun f => tb.nms.contains f)
  | _, _ => false)
end
section
variable {T : Pg} {tb : Tb} {fn : List He.DefD} {xi : List (Nat × He.DefD)} {K : PySem.W.Frag} {h : Heap} {mg : Str → Option Value}
theorem range_all {n : Nat} {p : Nat → Bool} (h : (List.range n).all p = true) {i : Nat} (hi : i < n) : p i = true := List.all_eq_true.mp h i (List.mem_range.mpr hi)
theorem getD_of {l : List Str} {i : Nat} {x : Str} (h : l[i]? = some x) : l.getD i Str.empty = x := by
  rw [List.getD_eq_getElem?_getD, h]
  rfl
theorem tys_all : ∀ t : Ty, (∀ c, t ≠ .cls c) → t ∈ tysL := by
  intro t
  cases t <;> first | (intro h; exact absurd rfl (h _)) | (intro _; decide)
theorem gd_of (X : K.In h) (G : h.Ns mainGlobals mg) (e : exB T tb fn xi K = true) (s : stB T tb xi = true) : Gd T (adK tb fn K) tb K mg := by
  unfold exB at e
  simp only [Bool.and_eq_true] at e
  obtain ⟨⟨⟨⟨⟨⟨⟨e1, e2⟩, e3⟩, e4⟩, e5⟩, e6⟩, e7⟩, e8⟩ := e
  unfold stB at s
  simp only [Bool.and_eq_true, decide_eq_true_eq] at s
  obtain ⟨⟨⟨⟨s1, s2⟩, s3⟩, s4⟩, s5⟩ := s
  have allx : ∀ (c : Nat) (k : Cl), T.cs[c]? = some k → k.exc = true := fun c k hk => by
    have := range_all e6 (List.getElem?_eq_some_iff.mp hk).1
    rw [hk] at this
    simp only [Bool.and_eq_true] at this
    exact this.1.1.1.1
  have noI : ∀ c, ¬ T.isI c := fun c ⟨k, hk, hx⟩ => by
    rw [allx c k hk] at hx
    cases hx
  refine ⟨fun k x hk => ?_, fun x i hm => ?_, fun x hm => ?_, fun hc => ?_, fun f y hf => getD_of hf, ⟨fun c hc => (noI c hc).elim, fun t u ht hu => ?_⟩, ⟨fun c k f hk hx _ => (noI c ⟨k, hk, hx⟩).elim, fun c k hk => ?_, fun c k hk => ?_⟩⟩
  · have := range_all e1 (List.getElem?_eq_some_iff.mp hk).1
    rw [hk] at this
    simp only [Bool.and_eq_true] at this
    exact ⟨PySem.W.mg_of X G (He.eqO_ok this.1), this.2⟩
  · exact He.int_ok X G (List.all_eq_true.mp e2 (x, i) hm)
  · exact PySem.W.mg_none_of X G (He.eqO_ok (List.all_eq_true.mp e3 x hm))
  · rw [hc] at e4
    exact PySem.W.mg_of X G (He.eqO_ok (by simpa using e4))
  · exact of_decide_eq_true (List.all_eq_true.mp (List.all_eq_true.mp e5 t (tys_all t fun c z => noI c (ht c z))) u (tys_all u fun c z => noI c (hu c z)))
  · have := List.all_eq_true.mp s2 k (List.mem_of_getElem? hk)
    simp only [Bool.and_eq_true, decide_eq_true_eq] at this
    exact this.1
  · have := List.all_eq_true.mp s2 k (List.mem_of_getElem? hk)
    simp only [Bool.and_eq_true, decide_eq_true_eq] at this
    exact this.2
theorem gx_of {P : Program} {w : World} {base : Heap} (X : K.In h) (G : h.Ns mainGlobals mg) (e : exB T tb fn xi K = true) (s : stB T tb xi = true) (hF : ∀ p, p ∈ xi → (∃ fd, FunD K p.2.name p.2.qual p.2.params p.2.body p.2.scope [] [] (He.fAd K p.2.at_) fd) ∧ ∀ B ps fs, initM p.2.body = some (B, ps, fs) → BnD p.2 ps) :
    Gx T (adK tb fn K) tb P w K mg base := by
  unfold exB at e
  simp only [Bool.and_eq_true] at e
  obtain ⟨⟨⟨⟨⟨⟨⟨e1, e2⟩, e3⟩, e4⟩, e5⟩, e6⟩, e7⟩, e8⟩ := e
  unfold stB at s
  simp only [Bool.and_eq_true, decide_eq_true_eq] at s
  obtain ⟨⟨⟨⟨s1, s2⟩, s3⟩, s4⟩, s5⟩ := s
  have cls : ∀ (c : Nat) (k : Cl), T.cs[c]? = some k → glB K (tb.cn.getD c Str.empty) ((adK tb fn K).cl c) = true ∧ xfB K ((adK tb fn K).cl c) = true ∧ (∀ y, y ∈ tb.nms → PySem.W.findIn K (.ref ((adK tb fn K).cl c)) y = some none) ∧ ∀ h, h < T.cs.length → PySem.W.exmOne K (.ref ((adK tb fn K).cl c)) (.ref ((adK tb fn K).cl h)) = some (k.sup.contains h) := fun c k hk => by
    have := range_all e6 (List.getElem?_eq_some_iff.mp hk).1
    rw [hk] at this
    simp only [Bool.and_eq_true] at this
    obtain ⟨⟨⟨⟨_, t1⟩, t2⟩, t3⟩, t4⟩ := this
    exact ⟨t1, t2, fun y hy => He.eqO_ok (List.all_eq_true.mp t3 y hy), fun h hh => of_decide_eq_true (range_all t4 hh)⟩
  refine ⟨⟨fun c h k kh hk _ hh => (cls c k hk).2.2.2 h (List.getElem?_eq_some_iff.mp hh).1⟩, fun c k hk _ => ⟨xfB_ok (cls c k hk).2.1, fun f y hy => (cls c k hk).2.2.1 y (List.mem_of_getElem? hy)⟩, fun c x hx => ?_, fun c hc => ?_⟩
  · have hl : c < T.cs.length := by rw [← s1]; exact (List.getElem?_eq_some_iff.mp hx).1
    have hk : T.cs[c]? = some T.cs[c] := List.getElem?_eq_getElem hl
    have := (cls c _ hk).1
    rw [getD_of hx] at this
    exact ⟨PySem.W.mg_of X G (He.eqO_ok this), _, hk⟩
  · rw [s3] at hc
    obtain ⟨p, hp, rfl⟩ := List.mem_map.mp hc
    obtain ⟨⟨fd, F⟩, hb⟩ := hF p hp
    have t := List.all_eq_true.mp e7 p hp
    have q := List.all_eq_true.mp s5 p hp
    simp only [Bool.and_eq_true, decide_eq_true_eq] at t
    obtain ⟨⟨⟨t1, t2⟩, t3⟩, t4⟩ := t
    cases hm : initM p.2.body with
    | none => rw [hm] at t4; cases t4
    | some y =>
      obtain ⟨B, ps, fs⟩ := y
      rw [hm] at t4 q
      simp only [Bool.and_eq_true] at t4
      cases hk : T.cs[p.1]? with
      | none => rw [hk] at q; cases q
      | some k =>
        rw [hk] at q
        simp only [Bool.and_eq_true, decide_eq_true_eq] at q
        obtain ⟨⟨⟨⟨⟨q1, q2⟩, q3⟩, q4⟩, q5⟩, q6⟩ := q
        obtain ⟨i1, i2, i3⟩ := initM_ok hm
        have To := oexB_ok t1
        have hB : (B == ("__debug__" : Str)) = false := by
          unfold nameB at q4
          simp only [Bool.and_eq_true, Bool.not_eq_true'] at q4
          exact q4.1
        have hbn : Binds K fd ps [] := F.bindsN fun kV doc pm an cdv ct us hl => hb B ps fs hm kV doc pm an cdv ct us hl
        obtain ⟨oc, od, dV, kV, doc, pm, an, cdv, ct, osl, rfl, lk, hcd, hD, hK⟩ := F.ex
        refine ⟨fs, _, _, ps, ?_, by omega, To, He.eqO_ok t2, t3, init_fn lk hcd (scpB_ok q2) i1 i2 q3 (PySem.W.mg_of X G (He.eqO_ok t4.1)) hB (iniB_ok t4.2) To (fun f hf => (cls _ k hk).2.2.1 f (List.contains_iff_mem.mp (List.all_eq_true.mp q6 f hf))) fun x hx => ?_, hbn⟩
        · rw [fnm_of hk]
          exact q1
        · have := List.all_eq_true.mp q5 x hx
          unfold nameB at this
          simp only [Bool.and_eq_true, Bool.not_eq_true'] at this
          exact this
end
end Dl
end

section
set_option Elab.async false
set_option linter.all false
set_option maxRecDepth 100000
set_option maxHeartbeats 2000000
/-! D46: a law by its L text. -/
namespace Dl
open PySem PySem.Spec PyProof.Rows L2
/-! ### the head's hook -/
def noLst (K : PySem.W.Frag) : Bool := K.all fun p => !decide (p.2.cls = .type "list")
/-- a part of the heap, its lists left out -/
def kOf (n : Nat) (g : Addr → Option Obj) : PySem.W.Frag := (He.frG g (He.asD g n ++ [sysModules, cStatics])).filter fun p => !decide (p.2.cls = .type "list")
theorem lookup_filter {p : Addr × Obj → Bool} {a : Addr} {o : Obj} : ∀ {l : PySem.W.Frag}, (List.lookup a (l.filter p)) = some o → (a, o) ∈ l
  | [], h => by cases h
  | q :: l, h => by
    rw [List.filter_cons] at h
    split at h
    · obtain ⟨b, u⟩ := q
      rw [List.lookup] at h
      split at h
      · rename_i e
        cases h
        rw [beq_iff_eq.mp e]
        exact List.mem_cons_self
      · exact List.mem_cons_of_mem _ (lookup_filter h)
    · exact List.mem_cons_of_mem _ (lookup_filter h)
theorem kOf_in {n : Nat} {h : Heap} : (kOf n h.get?).In h := fun a o e => by
  have m := lookup_filter (show List.lookup a ((He.frG h.get? (He.asD h.get? n ++ [sysModules, cStatics])).filter _) = some o from e)
  unfold He.frG at m
  obtain ⟨b, _, hb⟩ := List.mem_filterMap.mp m
  cases q : h.get? b with
  | none => rw [q] at hb; cases hb
  | some u =>
    rw [q] at hb
    cases hb
    exact q
abbrev AlL : Type := He.AlD × Bool
def obsL (n : Nat) (fa : List He.Fa) (fn : List He.DefD) (ex : PySem.W.Frag → Bool) (g : Addr → Option Obj) : AlL := (He.obsD fa fn (kOf n g), ex (kOf n g) && noLst (kOf n g))
def hookL (n : Nat) (fa : List He.Fa) (fn : List He.DefD) (ex : PySem.W.Frag → Bool) : PySem.W.Hook where
  α := AlL
  obs := fun s => obsL n fa fn ex s.heap.get?
  val := fun _ => (He.valD fn, true)
  says := fun _ h => ∃ K : PySem.W.Frag, K.In h ∧ He.SaysD fa fn K ∧ ex K = true ∧ noLst K = true
  of := fun _ s e => by
    have e1 := congrArg Prod.fst e
    have e2 := congrArg Prod.snd e
    have e3 : (ex (kOf n s.heap.get?) && noLst (kOf n s.heap.get?)) = true := e2
    rw [Bool.and_eq_true] at e3
    exact ⟨_, kOf_in, e1, e3.1, e3.2⟩
  keeps := fun _ _ _ ⟨K, hK, c⟩ k => ⟨K, PySem.W.Frag.In.keeps hK k, c⟩
theorem obsL_eq {n : Nat} {fa : List He.Fa} {fn : List He.DefD} {ex : PySem.W.Frag → Bool} {g : Addr → Option Obj} {s : Shared} (h : ∀ a, g a = s.heap.get? a) : obsL n fa fn ex g = (hookL n fa fn ex).obs s := by
  have e : g = s.heap.get? := funext h
  rw [e] <;> rfl
theorem noLst_at {K : PySem.W.Frag} {a : Addr} {o : Obj} (h : noLst K = true) (e : K.lookup a = some o) : o.cls ≠ .type "list" := by
  intro z
  unfold noLst at h
  have key : ∀ {l : PySem.W.Frag}, List.lookup a l = some o → (a, o) ∈ l := by
    intro l
    induction l with
    | nil => intro h; cases h
    | cons q l ih =>
      intro h
      obtain ⟨b, u⟩ := q
      rw [List.lookup] at h
      split at h
      · rename_i e
        cases h
        rw [beq_iff_eq.mp e]
        exact List.mem_cons_self
      · exact List.mem_cons_of_mem _ (ih h)
  have := List.all_eq_true.mp h _ (key e)
  rw [Bool.not_eq_true', decide_eq_false_iff_not] at this
  exact this z
/-! ### the law's call -/
section
variable {P : Program} {w : World} {K : PySem.W.Frag} {mg mb : Str → Option Value} {k : Nat} {fa a : Addr} {x : Str} {sp : Sp} {s1 : Shared} {vs : List Value} {ns : List Int}
/-- the script, and nothing else, is known -/
def scrH (a : Addr) (vs : List Value) (ns : List Int) : Hp := fun b => if b = a then some (.frz { cls := .type "list", data := .seq vs.toArray } (.lst (ns.map V.int))) else none
theorem law_G (KX : K.In s1.heap) (G : s1.heap.Ns mainGlobals mg) (B : s1.heap.Ns builtinsNs mb) (hbb : ∀ x : Str, x ≠ "__name__" → mb x = bootBuiltins x) (lim : s1.heap.NoLimit) (hg : s1.gens = #[]) (ha : s1.heap.get? a = some { cls := .type "list", data := .seq vs.toArray })
    (hi : IntsAre vs ns) (hl : ns.length ≤ sizeLine) (hnl : noLst K = true) (hr : RmG k callerA) (F : ∀ base : Heap, K.In base → base.Ns mainGlobals mg → ∃ fd, FnG P w K mg base (L2.CX P w) k fa fd [x] sp ∧ BdG fd [x])
    (hsp : sp [.ref a] (scrH a vs ns) (fun v _ => v = .bl true) fun _ _ _ => False) :
    codeAny (model P w) callerA (.call (.ref fa) ⟨[.ref a], []⟩) (fun r s' => r = .ok (.ret (.bool true)) ∧ OldK s1.heap s'.heap ∧ s'.os = s1.os ∧ AllBare s'.gens) s1 := by
  have off : ∀ {b : Addr}, b ≠ a → scrH a vs ns b = none := fun h => if_neg h
  have on : scrH a vs ns a = some (.frz { cls := .type "list", data := .seq vs.toArray } (.lst (ns.map V.int))) := if_pos rfl
  have kept : ∀ {b : Addr} {o : Obj}, s1.heap.get? b = some o → b ≠ a → (hidT s1.heap (scrH a vs ns)).get? b = some o := fun e n => hidT_get e (off n)
  have dict : ∀ {b : Addr} {m : Str → Option Value}, s1.heap.Ns b m → (hidT s1.heap (scrH a vs ns)).Ns b m := fun {b m} ⟨o, es, ep, e, d, r⟩ => ⟨o, es, ep, kept e (fun z => by
    subst z
    rw [ha] at e
    cases e
    cases (show Data.seq vs.toArray _ = Data.dict es ep from d)), d, r⟩
  have inB : K.In (hidT s1.heap (scrH a vs ns)) := fun b o e => kept (KX b o e) fun z => by
    subst z
    have := KX _ _ e
    rw [ha] at this
    cases this
    exact noLst_at hnl e rfl
  have ok : HOk P w (scrH a vs ns) s1.heap := fun b u e => by
    by_cases z : b = a
    · subst z
      rw [on] at e
      cases e
      exact ⟨ha, by rw [List.length_map]; exact hl, vs, _, vals_ints hi, ha⟩
    · rw [off z] at e
      cases e
  have M : Mod K mg (hidT s1.heap (scrH a vs ns)) := ⟨inB, dict G, ⟨mb, dict B, hbb⟩, let ⟨mc, h1, h2⟩ := lim; ⟨mc, dict h1, h2⟩⟩
  have E0 : Env0 P w K mg (hidT s1.heap (scrH a vs ns)) callerA [] s1 (scrH a vs ns) := ⟨rfl, M, fun b o e => of_hidT e, Nat.le_of_eq (hidT_size _ _), trivial, fun b m => absurd (show b ∈ ([] : List Addr) from m) List.not_mem_nil, ok, .of_eq hg⟩
  obtain ⟨fd, F1, hb⟩ := F _ inB (dict G)
  refine codeAny_mono (F1.run callerA [] s1 (scrH a vs ns) ⟨[.ref a], []⟩ [.ref a] [.ref a] _ _ hr E0 (.of_eq (hb [.ref a] rfl)) (.cons rfl .nil) hsp) fun r s2 h => ?_
  cases r with
  | error e => exact (let ⟨_, _, _, _, _, _, _, _, _, _, _, _, z⟩ := h; z.elim)
  | ok fl =>
    cases fl with
    | ret u =>
      obtain ⟨v, H2, os, bare, un, ok2, rv, q⟩ := h
      cases (show v = .bl true from q)
      cases (show u = Value.bool true from rv)
      refine ⟨rfl, OldK.of_keep fun b o e => ?_, os, bare⟩
      by_cases z : b = a
      · subst z
        rw [ha] at e
        cases e
        exact (ok2 _ _ (un.frzs _ _ _ on)).1
      · exact un.keep b o e (off z) (fun m => absurd (show b ∈ ([] : List Addr) from m) List.not_mem_nil) (by simp)
    | _ => exact h.elim
end
/-! ### a law -/
theorem rep_nums {T : Pg} {ad : Ad} {H : Hp} {mu : List Addr} {nu : Addr → Prop} : ∀ ns : List Int, RepL T ad H mu nu (ns.map V.int) (ns.map D.int)
  | [] => .nil
  | n :: ns => .cons (.int n) (rep_nums ns)
theorem walk_G {l : PySem.W.OpenLaw} {n f nh li : Nat} {q : Program} {loose : List Str} {XP : (Str → Option Value) → Heap → Prop} {d : DefRec} {x : Str} {T : Pg} {tb : Tb} {fa : List He.Fa} {fn : List He.DefD} {xi : List (Nat × He.DefD)}
    (hn : l.most = some n) (hn2 : n ≤ sizeLine) (hdf : d.params.defaults = []) (hr : RmG (2 * f + 2) callerA) (hs : stB T tb xi = true) (hli : tb.dn[li]? = some (some d.name)) (hlp : tb.ps[li]? = some [x])
    (hfn : ∀ (k : Nat) (ps : List Str), tb.ps[k]? = some ps → ∃ d N, fn[k]? = some d ∧ d.dfl = [] ∧ d.kwd = [] ∧ DefT T tb k d ps N) (hxi : ∀ p, p ∈ xi → p.2 ∈ fn ∧ p.2.dfl = [] ∧ p.2.kwd = [] ∧ ∀ B ps fs, initM p.2.body = some (B, ps, fs) → BnD p.2 ps)
    (main : ∀ ns : List Int, ns.length ≤ n → ∃ S, callF T f [] li [.lst false (ns.map .int)] [] = .ok (.bl true) S) :
    PySem.W.WalkO q loose XP (hookL nh fa fn (exB T tb fn xi)).says l.row.toRowW d [] (fun f vs => PySem.call f vs) := by
  refine Att.attach_call hn hdf fun w s0 s1 mg mb fad o pm cd doc a vs ns G Y ho hd hcd hmg hobj hints hlen hg => ?_
  obtain ⟨K, KX, c, e, hnl⟩ := Y
  have gd := gd_of KX G.T.g e hs
  have dps : ∀ (k : Nat) (x : Str), tb.dn[k]? = some (some x) → ∃ ps, tb.ps[k]? = some ps := fun k x h => by
    have hl : tb.dn.length = tb.ps.length := by
      unfold stB at hs
      simp only [Bool.and_eq_true, decide_eq_true_eq] at hs
      exact hs.1.2
    have := (List.getElem?_eq_some_iff.mp h).1
    exact ⟨_, List.getElem?_eq_getElem (by omega)⟩
  have defs : ∀ {d : He.DefD}, d ∈ fn → d.dfl = [] → d.kwd = [] → ∃ fd, FunD K d.name d.qual d.params d.body d.scope [] [] (He.fAd K d.at_) fd := fun {d} hm h1 h2 => by
    have z := c.defs hm
    have e1 : d.dvs K = [] := by unfold He.DefD.dvs; rw [h1]; rfl
    have e2 : d.kws K = [] := by unfold He.DefD.kws; rw [h2]; rfl
    rw [e1, e2] at z
    exact z
  have fns : ∀ (k : Nat) (ps : List Str), tb.ps[k]? = some ps → ∃ d N fd, FunD K d.name d.qual d.params d.body d.scope [] [] ((adK tb fn K).fn k) fd ∧ DefT T tb k d ps N := fun k ps h => by
    obtain ⟨d, N, h1, h2, h3, D⟩ := hfn k ps h
    obtain ⟨fd, F⟩ := defs (List.mem_of_getElem? h1) h2 h3
    refine ⟨d, N, fd, ?_, D⟩
    show FunD K d.name d.qual d.params d.body d.scope [] [] (match fn[k]? with | some d => He.fAd K d.at_ | none => 0) fd
    rw [h1]
    exact F
  have gx : ∀ base : Heap, Gx T (adK tb fn K) tb l.prog w K mg base := fun base => gx_of KX G.T.g e hs fun p hp => by
    obtain ⟨h1, h2, h3, h4⟩ := hxi p hp
    exact ⟨defs h1 h2 h3, h4⟩
  have sys : ∃ o, K.lookup sysModules = some o := by
    unfold exB at e
    simp only [Bool.and_eq_true] at e
    exact Option.isSome_iff_exists.mp e.2
  have tab : ∀ base : Heap, K.In base → FnF T (adK tb fn K) tb (callF T f) (2 * f + 2) l.prog w K mg base := fun base hK => tab_ok gd (gx base) dps (let ⟨o, h⟩ := sys; ⟨o, hK _ _ h⟩) rfl fns f
  have hfa : fad = (adK tb fn K).fn li := by
    have := (gd.dn li _ hli).1
    rw [hmg] at this
    cases this
    rfl
  obtain ⟨S, hS⟩ := main ns hlen
  refine law_G (sp := spG T (adK tb fn K) (callF T f) li) (x := x) KX G.T.g G.T.b G.T.builtins G.T.nolimit hg hobj hints (Nat.le_trans hlen hn2) hnl hr (fun base hK hG => ?_) ?_
  · obtain ⟨fd, FG, B, _⟩ := tab base hK li _ hlp
    rw [hfa]
    exact ⟨fd, FG, B⟩
  · refine ⟨[], [], fun _ => False, [], [.lst false (ns.map .int)], ⟨rfl, fun i d h => by simp at h, rfl, fun n a c h _ => by simp at h, List.nodup_nil, fun a h => absurd h List.not_mem_nil, fun a h => h.elim, fun β h => absurd h List.not_mem_nil, fun β h => absurd h List.not_mem_nil⟩, ?_, ?_⟩
    · refine .cons (.lst (fun z => z) (.inr ⟨_, if_pos rfl⟩) (rep_nums ns)) .nil
    · rw [hS]
      intro v H' mu' nu' fp x st ro ow fr
      cases ro with
      | of r => cases r; rfl
end Dl
end

section
set_option Elab.async false
set_option linter.all false
set_option maxRecDepth 100000
set_option maxHeartbeats 0
namespace Lw
open PySem Dl
/-- 0 is_integer: value -/
def d0 : Def := ⟨1, 1, [
  .ret (some (.and (.prim (.isi [.int]) [(.var 0)]) (.not (.e (.prim (.isi [.bool]) [(.var 0)])))))]⟩
/-- 1 is_between: value least most -/
def d1 : Def := ⟨3, 3, [
  .ret (some (.and (.call 0 [(.var 0)]) (.chn .LtE .LtE (.var 1) (.var 0) (.var 2))))]⟩
/-- 2 is_index: value many -/
def d2 : Def := ⟨2, 2, [
  .ret (some (.and (.call 0 [(.var 0)]) (.chn .LtE .Lt (.cst (.int 0)) (.var 0) (.var 1))))]⟩
/-- 3 check_values: values -/
def d3 : Def := ⟨1, 1, [
  .ite (.not (.e (.call 1 [(.var 0), (.cst (.int 1)), (.cst (.int 4))]))) [.raise 1 [(.var 0)]] []]⟩
/-- 4 check_size: size least most -/
def d4 : Def := ⟨3, 3, [
  .ite (.not (.e (.call 1 [(.var 0), (.var 1), (.var 2)]))) [.raise 2 [(.var 0)]] []]⟩
/-- 5 is_bag_of: values size value item -/
def d5 : Def := ⟨3, 4, [
  .ite (.or (.not (.e (.prim (.isi [.tuple]) [(.var 2)]))) (.or (.e (.cmp .NotEq (.prim .len [(.var 2)]) (.var 1))) (.not (.e (.prim .all [(.lc [3] (.call 2 [(.var 3), (.var 0)]) [.mk (.nm 3) (.e (.var 2)) []])]))))) [.ret (some (.cst (.bl false)))] [],
  .ret (some (.cmp .Eq (.prim .list [(.var 2)]) (.prim .sorted [(.var 2)])))]⟩
/-- 6 is_small_bag: values value -/
def d6 : Def := ⟨2, 2, [
  .ret (some (.and (.prim (.isi [.tuple]) [(.var 1)]) (.and (.cmp .LtE (.prim .len [(.var 1)]) (.cst (.int 6))) (.call 5 [(.var 0), (.prim .len [(.var 1)]), (.var 1)]))))]⟩
/-- 7 all_bags: values size found _ bag value -/
def d7 : Def := ⟨2, 6, [
  .asg (.nm 2) (.pl 1 (.lst [(.tup [])])),
  .for_ (.nm 3) (.rng [(.var 1)]) [.asg (.nm 2) (.pl 1 (.lc [4, 5] (.tup [(.star (.var 4)), (.var 5)]) [.mk (.nm 4) (.e (.var 2)) [], .mk (.nm 5) (.rng [(.prim .max1 [(.tup [(.cst (.int 0)), (.star (.var 4))])]), (.var 0)]) []]))],
  .ret (some (.var 2))]⟩
/-- 8 plus: bag value -/
def d8 : Def := ⟨2, 2, [
  .ret (some (.prim .tuple [(.prim .sorted [(.tup [(.star (.var 0)), (.var 1)])])]))]⟩
/-- 9 less: bag value at -/
def d9 : Def := ⟨2, 3, [
  .asg (.nm 2) (.meth .index (.var 0) [(.var 1)]),
  .ret (some (.bin .Add (.slc (.var 0) none (some (.var 2))) (.slc (.var 0) (some (.bin .Add (.var 2) (.cst (.int 1)))) none)))]⟩
/-- 10 bags: values size -/
def d10 : Def := ⟨2, 2, [
  .expr (.call 3 [(.var 0)]),
  .expr (.call 4 [(.var 1), (.cst (.int 0)), (.cst (.int 6))]),
  .ret (some (.call 7 [(.var 0), (.var 1)]))]⟩
/-- 11 count_bags: values size -/
def d11 : Def := ⟨2, 2, [
  .expr (.call 3 [(.var 0)]),
  .expr (.call 4 [(.var 1), (.cst (.int 0)), (.cst (.int 6))]),
  .ret (some (.prim .comb [(.bin .Sub (.bin .Add (.var 0) (.var 1)) (.cst (.int 1))), (.var 1)]))]⟩
/-- 12 bag_index: values bag -/
def d12 : Def := ⟨2, 2, [
  .expr (.call 3 [(.var 0)]),
  .ite (.not (.e (.call 6 [(.var 0), (.var 1)]))) [.raise 3 [(.var 1)]] [],
  .ret (some (.meth .index (.call 7 [(.var 0), (.prim .len [(.var 1)])]) [(.var 1)]))]⟩
/-- 13 check_parts: bag value -/
def d13 : Def := ⟨2, 2, [
  .ite (.not (.e (.call 6 [(.cst (.int 4)), (.var 0)]))) [.raise 3 [(.var 0)]] [],
  .ite (.not (.e (.call 2 [(.var 1), (.cst (.int 4))]))) [.raise 4 [(.var 1)]] []]⟩
/-- 14 added: bag value -/
def d14 : Def := ⟨2, 2, [
  .expr (.call 13 [(.var 0), (.var 1)]),
  .ret (some (.call 8 [(.var 0), (.var 1)]))]⟩
/-- 15 removed: bag value -/
def d15 : Def := ⟨2, 2, [
  .expr (.call 13 [(.var 0), (.var 1)]),
  .ite (.e (.cmp .NotIn (.var 1) (.var 0))) [.raise 5 [(.var 1)]] [],
  .ret (some (.call 9 [(.var 0), (.var 1)]))]⟩
/-- 16 _law_cell: _law_script _law_k -/
def d16 : Def := ⟨2, 2, [
  .ret (some (.ite (.e (.cmp .Lt (.var 1) (.prim .len [(.var 0)]))) (.sub (.var 0) (.var 1)) (.bin .Add (.bin .Mult (.cst (.int 5003)) (.var 1)) (.bin .Mod (.prim .sum [(.slc (.var 0) none (some (.cst (.int 1))))]) (.cst (.int 1000081))))))]⟩
/-- 17 _law_box: _law_great -/
def d17 : Def := ⟨1, 1, [
  .ret (some (.lst [(.prim .abs [(.var 0)]), (.cmp .GtE (.prim .abs [(.var 0)]) (.bin .Pow (.cst (.int 10)) (.cst (.int 18)))), (.bin .Mod (.prim .int [(.prim .abs [(.var 0)])]) (.cst (.int 2147483629))), (.cst (.int 0))]))]⟩
/-- 18 _law_take: _law_box_here _law_many _law_mixed _law_digit -/
def d18 : Def := ⟨2, 4, [
  .ite (.and (.e (.sub (.var 0) (.cst (.int 1)))) (.e (.cmp .Gt (.sub (.var 0) (.cst (.int 0))) (.cst (.int 0))))) [.asg (.nm 3) (.bin .Mod (.prim .int [(.sub (.var 0) (.cst (.int 0)))]) (.var 1)), .put (.var 0) (.cst (.int 0)) (.bin .FloorDiv (.sub (.var 0) (.cst (.int 0))) (.var 1)), .ret (some (.var 3))] [],
  .put (.var 0) (.cst (.int 3)) (.bin .Add (.sub (.var 0) (.cst (.int 3))) (.cst (.int 1))),
  .asg (.nm 2) (.bin .Mod (.prim .int [(.bin .Pow (.bin .Add (.bin .Add (.sub (.var 0) (.cst (.int 2))) (.bin .Mult (.cst (.int 15485863)) (.sub (.var 0) (.cst (.int 3))))) (.cst (.int 179424697))) (.cst (.int 5)))]) (.cst (.int 2147483647))),
  .ret (some (.bin .Mod (.bin .FloorDiv (.bin .Mod (.prim .int [(.bin .Pow (.bin .Add (.bin .Mult (.var 2) (.cst (.int 48271))) (.bin .Mult (.cst (.int 104723)) (.sub (.var 0) (.cst (.int 3))))) (.cst (.int 3)))]) (.cst (.int 2147483587))) (.cst (.int 64))) (.var 1)))]⟩
/-- 19 _law_bags: _law_values _law_size _law_found _law_turn _law_longer _law_bag_here _law_least _law_value -/
def d19 : Def := ⟨2, 8, [
  .asg (.nm 2) (.lst [(.tup [])]),
  .for_ (.nm 3) (.rng [(.var 1)]) [.asg (.nm 4) (.lst []), .for_ (.nm 5) (.e (.var 2)) [.asg (.nm 6) (.ite (.e (.cmp .NotEq (.var 5) (.tup []))) (.prim .max1 [(.var 5)]) (.cst (.int 0))), .asg (.nm 4) (.bin .Add (.var 4) (.lc [7] (.bin .Add (.var 5) (.tup [(.var 7)])) [.mk (.nm 7) (.rng [(.var 6), (.var 0)]) []]))], .asg (.nm 2) (.var 4)],
  .ret (some (.var 2))]⟩
/-- 20 _law_is_number: _law_thing _law_least _law_most -/
def d20 : Def := ⟨3, 3, [
  .ret (some (.and (.prim (.isi [.int]) [(.var 0)]) (.and (.not (.e (.prim (.isi [.bool]) [(.var 0)]))) (.and (.cmp .LtE (.var 1) (.var 0)) (.cmp .LtE (.var 0) (.var 2))))))]⟩
/-- 21 _law_is_bag: _law_values _law_thing _law_item -/
def d21 : Def := ⟨2, 3, [
  .ite (.or (.not (.e (.prim (.isi [.tuple]) [(.var 1)]))) (.e (.cmp .Gt (.prim .len [(.var 1)]) (.cst (.int 6))))) [.ret (some (.cst (.bl false)))] [],
  .for_ (.nm 2) (.e (.var 1)) [.ite (.not (.e (.call 20 [(.var 2), (.cst (.int 0)), (.bin .Sub (.var 0) (.cst (.int 1)))]))) [.ret (some (.cst (.bl false)))] []],
  .ret (some (.cmp .Eq (.prim .list [(.var 1)]) (.prim .sorted [(.var 1)])))]⟩
/-- 22 _law_odd: _law_box_here _law_menu -/
def d22 : Def := ⟨1, 2, [
  .asg (.nm 1) (.lst [(.cst (.non)), (.cst (.bl true)), (.cst (.bl false)), (.neg (.cst (.int 1))), (.bin .Pow (.cst (.int 10)) (.cst (.int 19))), (.cst (.str (Str.ofString "1"))), (.cst (.str (Str.ofString ""))), (.lst []), (.lst [(.cst (.int 1))]), (.tup [(.cst (.int 1))]), (.tup []), (.prim .dict [(.lst [(.tup [(.cst (.str (Str.ofString "a"))), (.cst (.int 1))])])]), (.tup [(.cst (.int 0)), (.cst (.int 0))]), (.tup [(.tup [(.cst (.int 0))])]), (.cst (.int 3)), (.neg (.bin .Pow (.cst (.int 10)) (.cst (.int 18))))]),
  .ret (some (.sub (.var 1) (.call 18 [(.var 0), (.cst (.int 16))])))]⟩
/-- 23 _law_number: _law_box_here _law_least _law_most _law_way -/
def d23 : Def := ⟨3, 4, [
  .asg (.nm 3) (.call 18 [(.var 0), (.cst (.int 8))]),
  .ite (.e (.cmp .Lt (.var 3) (.cst (.int 5)))) [.ret (some (.bin .Add (.var 1) (.call 18 [(.var 0), (.bin .Add (.bin .Sub (.var 2) (.var 1)) (.cst (.int 1)))])))] [],
  .ite (.e (.cmp .Eq (.var 3) (.cst (.int 5)))) [.ret (some (.sub (.lst [(.bin .Sub (.var 1) (.cst (.int 1))), (.bin .Add (.var 2) (.cst (.int 1)))]) (.call 18 [(.var 0), (.cst (.int 2))])))] [],
  .ret (some (.call 22 [(.var 0)]))]⟩
/-- 24 _law_bag: _law_box_here _law_values _law_turn -/
def d24 : Def := ⟨2, 3, [
  .ret (some (.prim .tuple [(.prim .sorted [(.lc [2] (.call 18 [(.var 0), (.var 1)]) [.mk (.nm 2) (.rng [(.call 18 [(.var 0), (.cst (.int 7))])]) []])])]))]⟩
/-- 25 _law_near: _law_box_here _law_values _law_way _law_bag_here _law_at _law_thing -/
def d25 : Def := ⟨2, 6, [
  .par 2 3 (.call 18 [(.var 0), (.cst (.int 10))]) (.call 24 [(.var 0), (.var 1)]),
  .ite (.e (.cmp .Eq (.var 2) (.cst (.int 0)))) [.ret (some (.prim .list [(.var 3)]))] [],
  .ite (.e (.cmp .Eq (.var 2) (.cst (.int 1)))) [.ret (some (.rev (.var 3)))] [],
  .ite (.e (.cmp .Eq (.var 2) (.cst (.int 2)))) [.ret (some (.prim .tuple [(.bin .Add (.bin .Mult (.lst [(.cst (.int 0))]) (.bin .Sub (.cst (.int 7)) (.prim .len [(.var 3)]))) (.prim .list [(.var 3)]))]))] [],
  .ite (.and (.e (.cmp .Eq (.var 2) (.cst (.int 3)))) (.e (.cmp .NotEq (.var 3) (.tup [])))) [.asg (.nm 4) (.call 18 [(.var 0), (.prim .len [(.var 3)])]), .asg (.nm 5) (.sub (.lst [(.var 1), (.neg (.cst (.int 1))), (.cst (.non)), (.cst (.bl true)), (.cst (.str (Str.ofString "0"))), (.tup [(.cst (.int 0))]), (.cst (.bl false)), (.lst [(.cst (.int 0))])]) (.call 18 [(.var 0), (.cst (.int 8))])), .ret (some (.bin .Add (.bin .Add (.slc (.var 3) none (some (.var 4))) (.tup [(.var 5)])) (.slc (.var 3) (some (.bin .Add (.var 4) (.cst (.int 1)))) none)))] [],
  .ret (some (.ite (.e (.cmp .Eq (.var 2) (.cst (.int 4)))) (.call 22 [(.var 0)]) (.var 3)))]⟩
/-- 26 _law_due: _law_way _law_one _law_other _law_at _law_found -/
def d26 : Def := ⟨3, 5, [
  .ite (.e (.cmp .Lt (.var 0) (.cst (.int 3)))) [.ite (.not (.e (.call 20 [(.var 1), (.cst (.int 1)), (.cst (.int 4))]))) [.ret (some (.lst [(.cst (.str (Str.ofString "values"))), (.var 1)]))] [], .ite (.e (.cmp .Lt (.var 0) (.cst (.int 2)))) [.ite (.not (.e (.call 20 [(.var 2), (.cst (.int 0)), (.cst (.int 6))]))) [.ret (some (.lst [(.cst (.str (Str.ofString "size"))), (.var 2)]))] [], .asg (.nm 4) (.call 19 [(.var 1), (.var 2)]), .ret (some (.lst [(.cst (.str (Str.ofString "told"))), (.ite (.e (.cmp .Eq (.var 0) (.cst (.int 0)))) (.var 4) (.prim .len [(.var 4)]))]))] [], .ite (.not (.e (.call 21 [(.var 1), (.var 2)]))) [.ret (some (.lst [(.cst (.str (Str.ofString "bag"))), (.var 2)]))] [], .ret (some (.lst [(.cst (.str (Str.ofString "told"))), (.meth .index (.call 19 [(.var 1), (.prim .len [(.var 2)])]) [(.var 2)])]))] [],
  .ite (.not (.e (.call 21 [(.cst (.int 4)), (.var 1)]))) [.ret (some (.lst [(.cst (.str (Str.ofString "bag"))), (.var 1)]))] [],
  .ite (.not (.e (.call 20 [(.var 2), (.cst (.int 0)), (.cst (.int 3))]))) [.ret (some (.lst [(.cst (.str (Str.ofString "value"))), (.var 2)]))] [],
  .ite (.e (.cmp .Eq (.var 0) (.cst (.int 3)))) [.ret (some (.lst [(.cst (.str (Str.ofString "told"))), (.prim .tuple [(.prim .sorted [(.bin .Add (.prim .list [(.var 1)]) (.lst [(.var 2)]))])])]))] [],
  .ite (.e (.cmp .NotIn (.var 2) (.var 1))) [.ret (some (.lst [(.cst (.str (Str.ofString "absent"))), (.var 2)]))] [],
  .asg (.nm 3) (.meth .index (.var 1) [(.var 2)]),
  .ret (some (.lst [(.cst (.str (Str.ofString "told"))), (.bin .Add (.slc (.var 1) none (some (.var 3))) (.slc (.var 1) (some (.bin .Add (.var 3) (.cst (.int 1)))) none))]))]⟩
/-- 27 _law_call: _law_way _law_one _law_other -/
def d27 : Def := ⟨3, 3, [
  .ite (.e (.cmp .Eq (.var 0) (.cst (.int 0)))) [.ret (some (.call 10 [(.var 1), (.var 2)]))] [],
  .ite (.e (.cmp .Eq (.var 0) (.cst (.int 1)))) [.ret (some (.call 11 [(.var 1), (.var 2)]))] [],
  .ite (.e (.cmp .Eq (.var 0) (.cst (.int 2)))) [.ret (some (.call 12 [(.var 1), (.var 2)]))] [],
  .ret (some (.ite (.e (.cmp .Eq (.var 0) (.cst (.int 3)))) (.call 14 [(.var 1), (.var 2)]) (.call 15 [(.var 1), (.var 2)])))]⟩
/-- 28 _law_named: _law_way _law_one _law_other -/
def d28 : Def := ⟨3, 3, [
  .ite (.e (.cmp .Eq (.var 0) (.cst (.int 0)))) [.ret (some (.callK 10 [(.var 2), (.var 1)] [1, 0]))] [],
  .ite (.e (.cmp .Eq (.var 0) (.cst (.int 1)))) [.ret (some (.callK 11 [(.var 2), (.var 1)] [1, 0]))] [],
  .ite (.e (.cmp .Eq (.var 0) (.cst (.int 2)))) [.ret (some (.callK 12 [(.var 2), (.var 1)] [1, 0]))] [],
  .ret (some (.ite (.e (.cmp .Eq (.var 0) (.cst (.int 3)))) (.callK 14 [(.var 2), (.var 1)] [1, 0]) (.callK 15 [(.var 2), (.var 1)] [1, 0])))]⟩
/-- 29 _law_told: _law_way _law_one _law_other _law_named_here e -/
def d29 : Def := ⟨4, 5, [
  .try_ [.ret (some (.lst [(.cst (.str (Str.ofString "told"))), (.ite (.e (.var 3)) (.call 28 [(.var 0), (.var 1), (.var 2)]) (.call 27 [(.var 0), (.var 1), (.var 2)]))]))] [.mk 1 4 [.ret (some (.lst [(.cst (.str (Str.ofString "values"))), (.xat 4 0)]))], .mk 2 4 [.ret (some (.lst [(.cst (.str (Str.ofString "size"))), (.xat 4 0)]))], .mk 3 4 [.ret (some (.lst [(.cst (.str (Str.ofString "bag"))), (.xat 4 0)]))], .mk 4 4 [.ret (some (.lst [(.cst (.str (Str.ofString "value"))), (.xat 4 0)]))], .mk 5 4 [.ret (some (.lst [(.cst (.str (Str.ofString "absent"))), (.xat 4 1)]))]]]⟩
/-- 30 _law_question: _law_box_here _law_way _law_values _law_most -/
def d30 : Def := ⟨1, 4, [
  .asg (.nm 1) (.call 18 [(.var 0), (.cst (.int 5))]),
  .ite (.e (.cmp .Lt (.var 1) (.cst (.int 2)))) [.ret (some (.lst [(.var 1), (.call 23 [(.var 0), (.cst (.int 1)), (.cst (.int 4))]), (.call 23 [(.var 0), (.cst (.int 0)), (.cst (.int 6))])]))] [],
  .ite (.e (.cmp .Eq (.var 1) (.cst (.int 2)))) [.asg (.nm 2) (.call 23 [(.var 0), (.cst (.int 1)), (.cst (.int 4))]), .asg (.nm 3) (.ite (.e (.call 20 [(.var 2), (.cst (.int 1)), (.cst (.int 4))])) (.var 2) (.cst (.int 3))), .ret (some (.lst [(.var 1), (.var 2), (.call 25 [(.var 0), (.bin .Add (.var 3) (.prim .int [(.and (.cmp .Lt (.var 3) (.cst (.int 4))) (.cmp .Eq (.call 18 [(.var 0), (.cst (.int 6))]) (.cst (.int 0))))]))])]))] [],
  .ret (some (.lst [(.var 1), (.call 25 [(.var 0), (.cst (.int 4))]), (.call 23 [(.var 0), (.cst (.int 0)), (.cst (.int 3))])]))]⟩
/-- 31 _law_answers_right: _law_box_here _law_question_here _law_kept _law_first _law_way _law_one _law_other _law_due_here _law_named_here -/
def d31 : Def := ⟨2, 9, [
  .asg (.tup [(.nm 4), (.nm 5), (.nm 6)]) (.var 1),
  .par 7 8 (.prim .repr [(.call 26 [(.var 4), (.var 5), (.var 6)])]) (.cmp .Eq (.call 18 [(.var 0), (.cst (.int 2))]) (.cst (.int 0))),
  .asg (.nm 2) (.prim .repr [(.lst [(.var 5), (.var 6)])]),
  .asg (.nm 3) (.pl 2 (.call 29 [(.var 4), (.var 5), (.var 6), (.var 8)])),
  .ite (.or (.e (.cmp .NotEq (.prim .repr [(.var 3)]) (.var 7))) (.e (.cmp .NotEq (.prim .repr [(.lst [(.var 5), (.var 6)])]) (.var 2)))) [.ret (some (.cst (.bl false)))] [],
  .ite (.and (.e (.prim (.isi [.list]) [(.sub (.var 3) (.cst (.int 1)))])) (.e (.cmp .Eq (.sub (.var 3) (.cst (.int 0))) (.cst (.str (Str.ofString "told")))))) [.expr (.mut .append (.sub (.var 3) (.cst (.int 1))) [(.cst (.non))])] [],
  .ret (some (.cmp .Eq (.prim .repr [(.call 29 [(.var 4), (.var 5), (.var 6), (.not (.e (.var 8)))])]) (.var 7)))]⟩
/-- 32 _law_there_and_back: _law_box_here _law_values _law_size _law_found _law_turn _law_more _law_at _law_value -/
def d32 : Def := ⟨3, 8, [
  .asg (.nm 3) (.call 19 [(.var 1), (.var 2)]),
  .ite (.or (.e (.cmp .NotEq (.prim .repr [(.call 10 [(.var 1), (.var 2)])]) (.prim .repr [(.var 3)]))) (.e (.cmp .NotEq (.prim .repr [(.call 11 [(.var 1), (.var 2)])]) (.prim .repr [(.prim .len [(.var 3)])])))) [.ret (some (.cst (.bl false)))] [],
  .for_ (.nm 4) (.rng [(.cst (.int 4))]) [.par 6 7 (.sub (.lst [(.cst (.int 0)), (.bin .Sub (.prim .len [(.var 3)]) (.cst (.int 1))), (.call 18 [(.var 0), (.prim .len [(.var 3)])])]) (.bin .Mod (.var 4) (.cst (.int 3)))) (.call 18 [(.var 0), (.cst (.int 4))]), .asg (.nm 5) (.call 14 [(.sub (.var 3) (.var 6)), (.var 7)]), .ite (.or (.e (.cmp .NotEq (.prim .repr [(.call 12 [(.var 1), (.sub (.var 3) (.var 6))])]) (.prim .repr [(.var 6)]))) (.e (.cmp .NotEq (.prim .repr [(.var 5)]) (.prim .repr [(.prim .tuple [(.prim .sorted [(.bin .Add (.prim .list [(.sub (.var 3) (.var 6))]) (.lst [(.var 7)]))])])])))) [.ret (some (.cst (.bl false)))] [], .ite (.and (.e (.cmp .Lt (.var 2) (.cst (.int 6)))) (.e (.cmp .NotEq (.call 15 [(.var 5), (.var 7)]) (.sub (.var 3) (.var 6))))) [.ret (some (.cst (.bl false)))] []],
  .ret (some (.cst (.bl true)))]⟩
/-- 33 law: _law_script _law_k _law_box_here _law_questions _law_question_here _law_values _law_size _law_turn -/
def d33 : Def := ⟨1, 8, [
  .for_ (.nm 1) (.rng [(.prim .max2 [(.cst (.int 2)), (.prim .min2 [(.cst (.int 4)), (.prim .len [(.var 0)])])])]) [.asg (.nm 2) (.pl 1 (.call 17 [(.call 16 [(.var 0), (.var 1)])])), .par 5 6 (.bin .Add (.cst (.int 1)) (.call 18 [(.var 2), (.cst (.int 4))])) (.call 18 [(.var 2), (.cst (.int 7))]), .asg (.nm 3) (.lc [7] (.call 30 [(.var 2)]) [.mk (.nm 7) (.rng [(.cst (.int 12))]) []]), .for_ (.nm 4) (.e (.var 3)) [.ite (.not (.e (.call 31 [(.var 2), (.var 4)]))) [.ret (some (.cst (.bl false)))] []], .ite (.or (.not (.e (.call 32 [(.var 2), (.var 5), (.var 6)]))) (.not (.e (.call 31 [(.var 2), (.sub (.var 3) (.call 18 [(.var 2), (.cst (.int 12))]))])))) [.ret (some (.cst (.bl false)))] []],
  .ret (some (.cst (.bl true)))]⟩
def pg : Pg := ⟨[d0, d1, d2, d3, d4, d5, d6, d7, d8, d9, d10, d11, d12, d13, d14, d15, d16, d17, d18, d19, d20, d21, d22, d23, d24, d25, d26, d27, d28, d29, d30, d31, d32, d33],
  [/- BoardError -/ ⟨[], [], 0, [0], true⟩,
   /- InvalidValues -/ ⟨[0], [], 0, [1, 0], true⟩,
   /- InvalidSize -/ ⟨[0], [], 0, [2, 0], true⟩,
   /- InvalidBag -/ ⟨[0], [], 0, [3, 0], true⟩,
   /- InvalidValue -/ ⟨[0], [], 0, [4, 0], true⟩,
   /- NotInBag -/ ⟨[1], [], 0, [5, 0], true⟩]⟩
/- fields: ['given', 'value']; methods: [] -/
end Lw
end

section
set_option Elab.async false
set_option linter.all false
set_option maxRecDepth 100000
set_option maxHeartbeats 1000000
/-! M0: evaluating by simp. -/
namespace Dl
section
variable {T : Pg} {C : List Nat → Nat → List D → Sto → R D} {b : List Nat} {σ : Env} {S : Sto} {x y z : E} {es : List E} {d : D} {o p : PySem.CmpOp} {op : PySem.Operator} {q q' : Q}
@[simp] theorem bind_ok {α β : Type} (a : α) (S : Sto) (f : α → Sto → R β) : (R.ok a S).bind f = f a S := id rfl
@[simp] theorem bind_ex {α β : Type} (c : Nat) (vs : List D) (S : Sto) (f : α → Sto → R β) : (R.ex c vs S : R α).bind f = .ex c vs S := id rfl
@[simp] theorem bind_er {α β : Type} (f : α → Sto → R β) : (R.er : R α).bind f = .er := id rfl
@[simp] theorem ofO_some {α : Type} (a : α) : R.ofO (some a) S = .ok a S := id rfl
@[simp] theorem ofO_none {α : Type} : R.ofO (none : Option α) S = .er := id rfl
@[simp] theorem rsof_ok {α : Type} (a : α) (S : Sto) (f : α → Sto → RS) : RS.of (R.ok a S) σ f = f a S := id rfl
@[simp] theorem rsof_ex {α : Type} (c : Nat) (vs : List D) (S : Sto) (f : α → Sto → RS) : RS.of (R.ex c vs S : R α) σ f = .ex c vs σ S := id rfl
@[simp] theorem rsof_er {α : Type} (f : α → Sto → RS) : RS.of (R.er : R α) σ f = .er := id rfl
@[simp] theorem noex_ok {α : Type} (a : α) (S : Sto) : R.noex (R.ok a S) = .ok a S := id rfl
@[simp] theorem ev_cst : ev T C b (.cst d) σ S = .ok d S := id rfl
@[simp] theorem ev_var (i : Nat) : ev T C b (.var i) σ S = (match σ[i]? with | some (some d) => .ok d S | _ => .er) := id rfl
@[simp] theorem ev_bin : ev T C b (.bin op x y) σ S = (ev T C b x σ S).bind fun x S => (ev T C b y σ S).bind fun y S => binF op x y S := id rfl
@[simp] theorem ev_neg : ev T C b (.neg x) σ S = (ev T C b x σ S).bind fun x S => R.ofO ((toI x).map fun i => .int (-i)) S := id rfl
@[simp] theorem ev_not : ev T C b (.not q) σ S = (evT T C b q σ S).bind fun c S => .ok (.bl (!c)) S := id rfl
@[simp] theorem ev_and : ev T C b (.and x y) σ S = (ev T C b x σ S).bind fun x S => (match x with | .bl true => ev T C b y σ S | .bl false => .ok (.bl false) S | _ => .er) := id rfl
@[simp] theorem ev_or : ev T C b (.or x y) σ S = (ev T C b x σ S).bind fun x S => (match x with | .bl false => ev T C b y σ S | .bl true => .ok (.bl true) S | _ => .er) := id rfl
@[simp] theorem ev_ite : ev T C b (.ite q x y) σ S = (evT T C b q σ S).bind fun c S => if c then ev T C b x σ S else ev T C b y σ S := id rfl
@[simp] theorem ev_cmp : ev T C b (.cmp o x y) σ S = (ev T C b x σ S).bind fun x S => (ev T C b y σ S).bind fun y S => R.ofO ((cmpF o x y S).map .bl) S := id rfl
@[simp] theorem ev_chn : ev T C b (.chn o p x y z) σ S = (ev T C b x σ S).bind fun x S => (ev T C b y σ S).bind fun y S => (match cmpF o x y S with
      | some true => (ev T C b z σ S).bind fun z S => R.ofO ((cmpF p y z S).map .bl) S
      | some false => .ok (.bl false) S
      | none => .er) := id rfl
@[simp] theorem ev_tup : ev T C b (.tup es) σ S = (evs T C b es σ S).bind fun xs S => if xs.length ≤ PySem.sizeLine then .ok (.tup xs) S else .er := id rfl
@[simp] theorem ev_lst : ev T C b (.lst es) σ S = (evs T C b es σ S).bind fun xs S => if xs.length ≤ PySem.sizeLine then .ok (.lst true xs) S else .er := id rfl
@[simp] theorem ev_sub : ev T C b (.sub x y) σ S = (ev T C b x σ S).bind fun x S => (ev T C b y σ S).bind fun i S => subF x i S := id rfl
@[simp] theorem ev_slc (lo hi : Option E) : ev T C b (.slc x lo hi) σ S = (ev T C b x σ S).bind fun x S => (evO T C b lo σ S).bind fun lo S => (evO T C b hi σ S).bind fun hi S => slcF x lo hi S := id rfl
@[simp] theorem ev_rev : ev T C b (.rev x) σ S = (ev T C b x σ S).bind fun x S => revF x S := id rfl
@[simp] theorem ev_xat (i f : Nat) : ev T C b (.xat i f) σ S = xatF T σ[i]? f S := id rfl
@[simp] theorem ev_call (k : Nat) : ev T C b (.call k es) σ S = (evs T C b es σ S).bind fun vs S => C b k (frzL vs) S := id rfl
@[simp] theorem ev_callK (k : Nat) (ps : List Nat) : ev T C b (.callK k es ps) σ S = (evs T C b es σ S).bind fun vs S => if vs.length = ps.length then C b k (pickA vs.length ps (frzL vs)) S else .er := id rfl
@[simp] theorem ev_prim (p : Prim) : ev T C b (.prim p es) σ S = (evs T C b es σ S).bind fun vs S => primF p vs S := id rfl
@[simp] theorem ev_meth (m : Meth) : ev T C b (.meth m x es) σ S = (ev T C b x σ S).bind fun x S => if (kids S x).isSome then (evs T C b es σ S).bind fun vs S => methF m x vs S else .er := id rfl
@[simp] theorem ev_mut (m : Mut) : ev T C b (.mut m x es) σ S = (ev T C b x σ S).bind fun x S => if isCell S x then (evs T C b es σ S).bind fun vs S => mutF m b x (frzL vs) S else .er := id rfl
@[simp] theorem ev_pl (k : Nat) : ev T C b (.pl k x) σ S = (ev T C b x σ S).bind fun x S => .ok (plant k x S).1 (plant k x S).2 := id rfl
@[simp] theorem evT_not : evT T C b (.not q) σ S = (evT T C b q σ S).bind fun c S => .ok (!c) S := id rfl
@[simp] theorem evT_and : evT T C b (.and q q') σ S = (evT T C b q σ S).bind fun c S => if c then evT T C b q' σ S else .ok false S := id rfl
@[simp] theorem evT_or : evT T C b (.or q q') σ S = (evT T C b q σ S).bind fun c S => if c then .ok true S else evT T C b q' σ S := id rfl
@[simp] theorem evT_e : evT T C b (.e x) σ S = (ev T C b x σ S).bind fun x S => R.ofO (truth S x) S := id rfl
@[simp] theorem evO_none : evO T C b none σ S = .ok none S := id rfl
@[simp] theorem evO_some : evO T C b (some x) σ S = (ev T C b x σ S).bind fun x S => R.ofO ((toI x).map some) S := id rfl
@[simp] theorem evs_nil : evs T C b [] σ S = .ok [] S := id rfl
@[simp] theorem evs_star : evs T C b (.star x :: es) σ S = (ev T C b x σ S).bind fun x S => (match kids S x with | some xs => (evs T C b es σ S).bind fun ys S => .ok (xs ++ ys) S | none => .er) := id rfl
@[simp] theorem evs_cst : evs T C b (.cst d :: es) σ S = (evs T C b es σ S).bind fun ys S => .ok (d :: ys) S := id rfl
@[simp] theorem evs_var (i : Nat) : evs T C b (.var i :: es) σ S = (ev T C b (.var i) σ S).bind fun x S => (evs T C b es σ S).bind fun ys S => .ok (x :: ys) S := id rfl
@[simp] theorem evs_bin : evs T C b (.bin op x y :: es) σ S = (ev T C b (.bin op x y) σ S).bind fun x S => (evs T C b es σ S).bind fun ys S => .ok (x :: ys) S := id rfl
@[simp] theorem evs_neg : evs T C b (.neg x :: es) σ S = (ev T C b (.neg x) σ S).bind fun x S => (evs T C b es σ S).bind fun ys S => .ok (x :: ys) S := id rfl
@[simp] theorem evs_not : evs T C b (.not q :: es) σ S = (ev T C b (.not q) σ S).bind fun x S => (evs T C b es σ S).bind fun ys S => .ok (x :: ys) S := id rfl
@[simp] theorem evs_and : evs T C b (.and x y :: es) σ S = (ev T C b (.and x y) σ S).bind fun x S => (evs T C b es σ S).bind fun ys S => .ok (x :: ys) S := id rfl
@[simp] theorem evs_or : evs T C b (.or x y :: es) σ S = (ev T C b (.or x y) σ S).bind fun x S => (evs T C b es σ S).bind fun ys S => .ok (x :: ys) S := id rfl
@[simp] theorem evs_ite : evs T C b (.ite q x y :: es) σ S = (ev T C b (.ite q x y) σ S).bind fun x S => (evs T C b es σ S).bind fun ys S => .ok (x :: ys) S := id rfl
@[simp] theorem evs_cmp : evs T C b (.cmp o x y :: es) σ S = (ev T C b (.cmp o x y) σ S).bind fun x S => (evs T C b es σ S).bind fun ys S => .ok (x :: ys) S := id rfl
@[simp] theorem evs_tup (as : List E) : evs T C b (.tup as :: es) σ S = (ev T C b (.tup as) σ S).bind fun x S => (evs T C b es σ S).bind fun ys S => .ok (x :: ys) S := id rfl
@[simp] theorem evs_lst (as : List E) : evs T C b (.lst as :: es) σ S = (ev T C b (.lst as) σ S).bind fun x S => (evs T C b es σ S).bind fun ys S => .ok (x :: ys) S := id rfl
@[simp] theorem evs_sub : evs T C b (.sub x y :: es) σ S = (ev T C b (.sub x y) σ S).bind fun x S => (evs T C b es σ S).bind fun ys S => .ok (x :: ys) S := id rfl
@[simp] theorem evs_slc (lo hi : Option E) : evs T C b (.slc x lo hi :: es) σ S = (ev T C b (.slc x lo hi) σ S).bind fun x S => (evs T C b es σ S).bind fun ys S => .ok (x :: ys) S := id rfl
@[simp] theorem evs_xat (i f : Nat) : evs T C b (.xat i f :: es) σ S = (ev T C b (.xat i f) σ S).bind fun x S => (evs T C b es σ S).bind fun ys S => .ok (x :: ys) S := id rfl
@[simp] theorem evs_call (k : Nat) (as : List E) : evs T C b (.call k as :: es) σ S = (ev T C b (.call k as) σ S).bind fun x S => (evs T C b es σ S).bind fun ys S => .ok (x :: ys) S := id rfl
@[simp] theorem evs_prim (k : Prim) (as : List E) : evs T C b (.prim k as :: es) σ S = (ev T C b (.prim k as) σ S).bind fun x S => (evs T C b es σ S).bind fun ys S => .ok (x :: ys) S := id rfl
@[simp] theorem evs_meth (k : Meth) (as : List E) : evs T C b (.meth k x as :: es) σ S = (ev T C b (.meth k x as) σ S).bind fun x S => (evs T C b es σ S).bind fun ys S => .ok (x :: ys) S := id rfl
@[simp] theorem evs_lc (own : List Nat) (gs : List G) : evs T C b (.lc own x gs :: es) σ S = (ev T C b (.lc own x gs) σ S).bind fun x S => (evs T C b es σ S).bind fun ys S => .ok (x :: ys) S := id rfl
@[simp] theorem evs_pl (k : Nat) : evs T C b (.pl k x :: es) σ S = (ev T C b (.pl k x) σ S).bind fun x S => (evs T C b es σ S).bind fun ys S => .ok (x :: ys) S := id rfl
@[simp] theorem evs_chn : evs T C b (.chn o p x y z :: es) σ S = (ev T C b (.chn o p x y z) σ S).bind fun x S => (evs T C b es σ S).bind fun ys S => .ok (x :: ys) S := id rfl
@[simp] theorem evI_e : evI T C b (.e x) σ S = (ev T C b x σ S).bind fun x S => itF x S := id rfl
@[simp] theorem evI_rng : evI T C b (.rng es) σ S = (evs T C b es σ S).bind fun vs S => rngF vs S := id rfl
@[simp] theorem execs_nil : execs T C b [] σ S = .nx σ S := id rfl
@[simp] theorem execs_cons (s : Dl.S) (r : List Dl.S) : execs T C b (s :: r) σ S = (match exec T C b s σ S with | .nx σ S => execs T C b r σ S | q => q) := id rfl
@[simp] theorem exec_expr : exec T C b (.expr x) σ S = RS.of (ev T C b x σ S) σ fun _ S => .nx σ S := id rfl
@[simp] theorem exec_asg (t : Tg) : exec T C b (.asg t x) σ S = RS.of (ev T C b x σ S) σ fun d S => (match asgV t (frz d) σ S with | some σ => .nx σ S | none => .er) := id rfl
@[simp] theorem exec_par (i j : Nat) : exec T C b (.par i j x y) σ S = RS.of (ev T C b x σ S) σ fun x S => RS.of (ev T C b y σ S) σ fun y S => if i < σ.length ∧ j < σ.length then .nx ((σ.set i (some (frz x))).set j (some (frz y))) S else .er := id rfl
@[simp] theorem exec_put : exec T C b (.put x y z) σ S = RS.of (ev T C b z σ S) σ fun v S => RS.of (ev T C b x σ S) σ fun o S => RS.of (ev T C b y σ S) σ fun i S => (match putF b o i (frz v) S with | some S => .nx σ S | none => .er) := id rfl
@[simp] theorem exec_retN : exec T C b (.ret none) σ S = .rt .non S := id rfl
@[simp] theorem exec_ret : exec T C b (.ret (some x)) σ S = RS.of (ev T C b x σ S) σ fun d S => .rt d S := id rfl
@[simp] theorem exec_ite (t e : List Dl.S) : exec T C b (.ite q t e) σ S = RS.of (evT T C b q σ S) σ fun c S => if c then execs T C b t σ S else execs T C b e σ S := id rfl
theorem exec_for (t : Tg) (it : It) (body : List Dl.S) : exec T C b (.for_ t it body) σ S = RS.of (evI T C b it σ S) σ fun s S => forR (fun x σ S => (match asgV t x σ S with | some σ => execs T C b body σ S | none => .er)) s σ S := rfl
@[simp] theorem exec_raise (c : Nat) : exec T C b (.raise c es) σ S = RS.of (evs T C b es σ S) σ fun vs S => (match T.cs[c]? with | some k => if k.exc = true ∧ vs.length = k.fs.length then .ex c (frzL vs).reverse σ S else .er | none => .er) := id rfl
@[simp] theorem exec_try (body : List Dl.S) (hs : List H) : exec T C b (.try_ body hs) σ S = (match execs T C b body σ S with
      | .ex c vs σ S => handle T C b hs c vs σ S
      | r => r) := id rfl
@[simp] theorem handle_nil (c : Nat) (vs : List D) : handle T C b [] c vs σ S = .ex c vs σ S := id rfl
@[simp] theorem handle_cons (h i : Nat) (body : List Dl.S) (r : List H) (c : Nat) (vs : List D) : handle T C b (.mk h i body :: r) c vs σ S = (match subC T c h with | some true => unName i (execs T C b body (σ.set i (some (.exc c vs))) S) | some false => handle T C b r c vs σ S | none => .er) := id rfl
@[simp] theorem frzL_nil : frzL [] = [] := id rfl
@[simp] theorem frzL_cons (d : D) (ds : List D) : frzL (d :: ds) = frz d :: frzL ds := id rfl
@[simp] theorem frz_int (i : Int) : frz (.int i) = .int i := id rfl
@[simp] theorem frz_bl (i : Bool) : frz (.bl i) = .bl i := id rfl
@[simp] theorem frz_non : frz .non = .non := id rfl
@[simp] theorem frz_str (x : PySem.Str) : frz (.str x) = .str x := id rfl
@[simp] theorem frz_ref (n : Nat) : frz (.ref n) = .ref n := id rfl
@[simp] theorem frz_tup (xs : List D) : frz (.tup xs) = .tup (frzL xs) := id rfl
@[simp] theorem frz_lst (o : Bool) (xs : List D) : frz (.lst o xs) = .lst false (frzL xs) := id rfl
@[simp] theorem frz_dic (o : Bool) (ks vs : List D) : frz (.dic o ks vs) = .dic false ks (frzL vs) := id rfl
@[simp] theorem asgV_nm (i : Nat) : asgV (.nm i) d σ S = if i < σ.length then some (σ.set i (some d)) else none := id rfl
end
@[simp] theorem truth_bl (c : Bool) (S : Sto) : truth S (.bl c) = some c := id rfl
@[simp] theorem truth_int (c : Int) (S : Sto) : truth S (.int c) = some (c != 0) := id rfl
@[simp] theorem cmp_lt (i j : Int) (S : Sto) : cmpF .Lt (.int i) (.int j) S = some (decide (i < j)) := id rfl
@[simp] theorem cmp_le (i j : Int) (S : Sto) : cmpF .LtE (.int i) (.int j) S = some (decide (i ≤ j)) := id rfl
@[simp] theorem cmp_gt (i j : Int) (S : Sto) : cmpF .Gt (.int i) (.int j) S = some (decide (j < i)) := id rfl
@[simp] theorem cmp_ge (i j : Int) (S : Sto) : cmpF .GtE (.int i) (.int j) S = some (decide (j ≤ i)) := id rfl
@[simp] theorem cmp_eqi (i j : Int) (S : Sto) : cmpF .Eq (.int i) (.int j) S = some (i == j) := id rfl
@[simp] theorem cmp_nei (i j : Int) (S : Sto) : cmpF .NotEq (.int i) (.int j) S = some (!(i == j)) := id rfl
@[simp] theorem bin_add (i j : Int) (S : Sto) : binF .Add (.int i) (.int j) S = .ok (.int (i + j)) S := id rfl
@[simp] theorem bin_sub (i j : Int) (S : Sto) : binF .Sub (.int i) (.int j) S = .ok (.int (i - j)) S := id rfl
@[simp] theorem bin_mul (i j : Int) (S : Sto) : binF .Mult (.int i) (.int j) S = if i.natAbs.log2 + j.natAbs.log2 < 1000000 then .ok (.int (i * j)) S else .er := id rfl
@[simp] theorem bin_div (i j : Int) (S : Sto) : binF .FloorDiv (.int i) (.int j) S = if 0 < j ∧ j.natAbs.log2 < 9000 then .ok (.int (i / j)) S else .er := id rfl
@[simp] theorem bin_mod (i j : Int) (S : Sto) : binF .Mod (.int i) (.int j) S = if j ≠ 0 then .ok (.int (i.fmod j)) S else .er := id rfl
@[simp] theorem bin_pow (i j : Int) (S : Sto) : binF .Pow (.int i) (.int j) S = if 0 ≤ j ∧ j ≤ 1000000 ∧ i.natAbs < 2 ^ 64 then .ok (.int (i ^ j.toNat)) S else .er := id rfl
@[simp] theorem toI_int (i : Int) : toI (.int i) = some i := id rfl
@[simp] theorem prim_int (i : Int) (S : Sto) : primF .int [.int i] S = .ok (.int i) S := id rfl
@[simp] theorem prim_abs (i : Int) (S : Sto) : primF .abs [.int i] S = .ok (.int (if i < 0 then -i else i)) S := id rfl
@[simp] theorem prim_lenT (xs : List D) (S : Sto) : primF .len [.tup xs] S = .ok (.int xs.length) S := id rfl
@[simp] theorem prim_lenL (o : Bool) (xs : List D) (S : Sto) : primF .len [.lst o xs] S = .ok (.int xs.length) S := id rfl
/-! ### calls -/
section
variable {T : Pg} {n k : Nat} {bs : List Nat} {as : List D} {S S2 : Sto} {Df : Def} {v : D} {c : Nat} {vs : List D} {e2 : Env}
theorem leave_le {b : Nat} {v : D} {S : Sto} (h : S.length ≤ b) : leave b v S = some (v, S) := by
  unfold leave
  rw [if_pos h]
theorem leaveL_le {b : Nat} {v : List D} {S : Sto} (h : S.length ≤ b) : leaveL b v S = some (v, S) := by
  unfold leaveL
  rw [if_pos h]
theorem call_rt (hk : T.ds[k]? = some Df) (h1 : as.length = Df.np) (h2 : Df.np ≤ Df.nn) (he : execs T (callF T n) (S.length :: bs) Df.body (as.map some ++ List.replicate (Df.nn - Df.np) none) S = .rt v S2) (hl : S2.length ≤ S.length) : callF T (n + 1) bs k as S = .ok v S2 := by
  rw [callF, hk]
  dsimp only
  rw [if_pos ⟨h1, h2⟩, he]
  dsimp only
  rw [leave_le hl]
theorem call_rt2 {v2 : D} {S3 : Sto} (hk : T.ds[k]? = some Df) (h1 : as.length = Df.np) (h2 : Df.np ≤ Df.nn) (he : execs T (callF T n) (S.length :: bs) Df.body (as.map some ++ List.replicate (Df.nn - Df.np) none) S = .rt v S2) (hl : leave S.length v S2 = some (v2, S3)) : callF T (n + 1) bs k as S = .ok v2 S3 := by
  rw [callF, hk]
  dsimp only
  rw [if_pos ⟨h1, h2⟩, he]
  dsimp only
  rw [hl]
theorem call_nx (hk : T.ds[k]? = some Df) (h1 : as.length = Df.np) (h2 : Df.np ≤ Df.nn) (he : execs T (callF T n) (S.length :: bs) Df.body (as.map some ++ List.replicate (Df.nn - Df.np) none) S = .nx e2 S2) (hl : S2.length ≤ S.length) : callF T (n + 1) bs k as S = .ok .non S2 := by
  rw [callF, hk]
  dsimp only
  rw [if_pos ⟨h1, h2⟩, he]
  dsimp only
  rw [leave_le hl]
theorem call_ex (hk : T.ds[k]? = some Df) (h1 : as.length = Df.np) (h2 : Df.np ≤ Df.nn) (he : execs T (callF T n) (S.length :: bs) Df.body (as.map some ++ List.replicate (Df.nn - Df.np) none) S = .ex c vs e2 S2) (hl : S2.length ≤ S.length) : callF T (n + 1) bs k as S = .ex c vs S2 := by
  rw [callF, hk]
  dsimp only
  rw [if_pos ⟨h1, h2⟩, he]
  dsimp only
  rw [leaveL_le hl]
end
theorem forL_all {f : D → Env → Sto → RS} {p : D → Bool} {r : D} {S : Sto} {P : Env → Prop} : ∀ {xs : List D} {σ : Env}, (∀ x, x ∈ xs → ∀ σ, P σ → (p x = true → ∃ σ', f x σ S = .nx σ' S ∧ P σ') ∧ (p x = false → f x σ S = .rt r S)) → P σ →
    (xs.all p = true → ∃ σ', forL f xs σ S = .nx σ' S ∧ P σ') ∧ (xs.all p = false → forL f xs σ S = .rt r S)
  | [], σ, _, hσ => ⟨fun _ => ⟨σ, rfl, hσ⟩, fun h => by cases h⟩
  | x :: xs, σ, h, hσ => by
    obtain ⟨h1, h2⟩ := h x List.mem_cons_self σ hσ
    rw [List.all_cons]
    cases hp : p x with
    | false =>
      refine ⟨fun z => by simp at z, fun _ => ?_⟩
      rw [forL, h2 hp]
    | true =>
      obtain ⟨σ', e, hσ'⟩ := h1 hp
      rw [forL, e, Bool.true_and]
      exact forL_all (fun y hy => h y (List.mem_cons_of_mem _ hy)) hσ'
/-! ### lists of ints -/
theorem intsD_map : ∀ l : List Int, intsD (l.map .int) = some l
  | [] => rfl
  | i :: l => by rw [List.map_cons, intsD, intsD_map l]
theorem boolsD_map : ∀ l : List Bool, boolsD (l.map .bl) = some l
  | [] => rfl
  | i :: l => by rw [List.map_cons, boolsD, boolsD_map l]
theorem frzL_ints : ∀ l : List Int, frzL (l.map .int) = l.map .int
  | [] => rfl
  | i :: l => by rw [List.map_cons, frzL_cons, frzL_ints l]; rfl
theorem okL_ints (n : Nat) : ∀ l : List Int, okL n (l.map .int) = true
  | [] => by cases n <;> rfl
  | i :: l => by
    rw [List.map_cons]
    have := okL_ints n l
    cases n <;> simp [okL, okD, this]
theorem norm_lst (S : Sto) (o : Bool) (l : List Int) : norm S (.lst o (l.map .int)) = some (.lst o (l.map .int)) := by
  have h : okD 60 (.lst o (l.map .int)) = true := by show okL 59 (l.map .int) = true; exact okL_ints _ l
  unfold norm
  rw [if_pos h]
theorem norm_tup (S : Sto) (l : List Int) : norm S (.tup (l.map .int)) = some (.tup (l.map .int)) := by
  have h : okD 60 (.tup (l.map .int)) = true := by show okL 59 (l.map .int) = true; exact okL_ints _ l
  unfold norm
  rw [if_pos h]
theorem eqL_ints : ∀ l m : List Int, eqL (l.map .int) (m.map .int) = (l == m)
  | [], [] => rfl
  | [], _ :: _ => rfl
  | _ :: _, [] => rfl
  | i :: l, j :: m => by
    rw [List.map_cons, List.map_cons, eqL, eqL_ints l m]
    rfl
/-! ### loops of values that change nothing -/
theorem loopL_pure {f : D → Sto → R (List D)} {S : Sto} {g : D → List D} : ∀ {xs : List D}, (∀ x, x ∈ xs → f x S = .ok (g x) S) → loopL f xs S = .ok (xs.flatMap g) S
  | [], _ => rfl
  | x :: xs, h => by
    rw [loopL, h x List.mem_cons_self]
    simp only [bind_ok]
    rw [loopL_pure fun y hy => h y (List.mem_cons_of_mem _ hy)]
    rfl
theorem loopC_pure {f : D → Sto → R (List D)} {S : Sto} {g : D → List D} {n : Nat} {xs : List D} (hc : cellAt S n xs.length = some xs) (h : ∀ x, x ∈ xs → f x S = .ok (g x) S) : ∀ r, r ≤ xs.length → loopC f n xs.length r S = .ok ((xs.drop (xs.length - r)).flatMap g) S
  | 0, _ => by
    rw [loopC, hc, Nat.sub_zero, List.drop_length]
    rfl
  | r + 1, hr => by
    rw [loopC, hc]
    dsimp only
    have hlt : xs.length - (r + 1) < xs.length := by omega
    rw [List.getElem?_eq_getElem hlt]
    dsimp only
    rw [h _ (List.getElem_mem hlt)]
    simp only [bind_ok]
    rw [loopC_pure hc h r (by omega)]
    rw [List.drop_eq_getElem_cons hlt, List.flatMap_cons]
    have e : xs.length - (r + 1) + 1 = xs.length - r := by omega
    rw [e]
    rfl
theorem flatMap_one {g : D → D} : ∀ xs : List D, (xs.flatMap fun x => [g x]) = xs.map g
  | [] => rfl
  | x :: xs => by rw [List.flatMap_cons, flatMap_one xs]; rfl
section
variable {T : Pg} {C : List Nat → Nat → List D → Sto → R D} {b : List Nat} {σ : Env} {S : Sto} {elt : E} {own : List Nat} {t t1 : Tg} {it it1 : It} {xs : List D}
theorem lc_pure {g : D → D} (hi : evI T C b it σ S = .ok (.its xs) S) (h : ∀ x, x ∈ xs → ∃ σ', asgV t x (wipeE σ own) S = some σ' ∧ ev T C b elt σ' S = .ok (g x) S) (hz : xs.length < PySem.sizeLine) : ev T C b (.lc own elt [.mk t it []]) σ S = .ok (.lst true (xs.map g)) S := by
  rw [ev, hi]
  have e : loopR (lcF T C b t [] elt (wipeE σ own)) (.its xs) S = .ok (xs.flatMap fun x => [g x]) S := loopL_pure fun x hx => by
    obtain ⟨σ', h1, h2⟩ := h x hx
    unfold lcF
    rw [h1]
    simp only [evC, bind_ok, if_true, evG, h2]
    rfl
  show (loopR (lcF T C b t [] elt (wipeE σ own)) (.its xs) S).bind (fun xs S => if xs.length < PySem.sizeLine then R.ok (D.lst true xs) S else R.er) = _
  rw [e, flatMap_one]
  simp only [bind_ok, List.length_map]
  rw [if_pos hz]
theorem lc2_pure {n : Nat} {ys : D → List D} {g : D → D → D} (hi : evI T C b it σ S = .ok (.cell n xs.length) S) (hc : cellAt S n xs.length = some xs)
    (h : ∀ x, x ∈ xs → ∃ σ', asgV t x (wipeE σ own) S = some σ' ∧ evI T C b it1 σ' S = .ok (.its (ys x)) S ∧ ∀ y, y ∈ ys x → ∃ σ'', asgV t1 y σ' S = some σ'' ∧ ev T C b elt σ'' S = .ok (g x y) S)
    (hz : (xs.flatMap fun x => (ys x).map (g x)).length < PySem.sizeLine) : ev T C b (.lc own elt [.mk t it [], .mk t1 it1 []]) σ S = .ok (.lst true (xs.flatMap fun x => (ys x).map (g x))) S := by
  rw [ev, hi]
  have e : loopR (lcF2 T C b t [] t1 it1 [] elt (wipeE σ own)) (.cell n xs.length) S = .ok (xs.flatMap fun x => (ys x).map (g x)) S := by
    have := loopC_pure (f := lcF2 T C b t [] t1 it1 [] elt (wipeE σ own)) (g := fun x => (ys x).map (g x)) hc (fun x hx => by
        obtain ⟨σ', h1, h2, h3⟩ := h x hx
        unfold lcF2
        rw [h1]
        simp only [evC, bind_ok, if_true, h2]
        have e2 : loopR (lcF1 T C b t1 [] elt σ') (.its (ys x)) S = .ok ((ys x).flatMap fun y => [g x y]) S := loopL_pure fun y hy => by
          obtain ⟨σ'', h4, h5⟩ := h3 y hy
          unfold lcF1
          rw [h4]
          simp only [evC, bind_ok, if_true, evG, h5]
        rw [e2, flatMap_one]
        rfl) xs.length (Nat.le_refl _)
    rw [Nat.sub_self, List.drop_zero] at this
    exact this
  show (loopR (lcF2 T C b t [] t1 it1 [] elt (wipeE σ own)) (.cell n xs.length) S).bind (fun xs S => if xs.length < PySem.sizeLine then R.ok (D.lst true xs) S else R.er) = _
  rw [e]
  simp only [bind_ok]
  rw [if_pos hz]
end
section
variable {T : Pg} {C : List Nat → Nat → List D → Sto → R D} {b : List Nat} {σ : Env} {S : Sto} {t : Tg} {it : It} {xs : List D} {body : List Dl.S}
theorem for_all {p : D → Bool} {r : D} {P : Env → Prop} (hi : evI T C b it σ S = .ok (.its xs) S) (h : ∀ x, x ∈ xs → ∀ σ, P σ → ∃ σ1, asgV t x σ S = some σ1 ∧ (p x = true → ∃ σ', execs T C b body σ1 S = .nx σ' S ∧ P σ') ∧ (p x = false → execs T C b body σ1 S = .rt r S)) (hσ : P σ) :
    (xs.all p = true → ∃ σ', exec T C b (.for_ t it body) σ S = .nx σ' S ∧ P σ') ∧ (xs.all p = false → exec T C b (.for_ t it body) σ S = .rt r S) := by
  rw [exec_for, hi]
  simp only [rsof_ok]
  exact forL_all (fun x hx σ hP => by
    obtain ⟨σ1, h1, h2, h3⟩ := h x hx σ hP
    rw [h1]
    exact ⟨h2, h3⟩) hσ
end
end Dl
end

section
set_option Elab.async false
set_option linter.all false
set_option maxRecDepth 100000
set_option maxHeartbeats 1000000
/-! M1: k01: small defs. -/
namespace Lw
open Dl
/-- plain data: its type is known -/
def tyP : D → Option Ty
  | .non => some .none
  | .bl _ => some .bool
  | .int _ => some .int
  | .str _ => some .str
  | .tup _ => some .tuple
  | .lst _ _ => some .list
  | .dic _ _ _ => some .dict
  | _ => none
def PlD (d : D) : Prop := (∃ t, tyP d = some t) ∧ frz d = d
def isNumD (d : D) (lo hi : Int) : Bool := match d with
  | .int i => decide (lo ≤ i) && decide (i ≤ hi)
  | _ => false
def intD : D → Bool
  | .int _ => true
  | _ => false
@[simp] theorem cs1 : pg.cs[1]? = some ⟨[0], [], 0, [1, 0], true⟩ := rfl
@[simp] theorem cs2 : pg.cs[2]? = some ⟨[0], [], 0, [2, 0], true⟩ := rfl
@[simp] theorem cs3 : pg.cs[3]? = some ⟨[0], [], 0, [3, 0], true⟩ := rfl
@[simp] theorem cs4 : pg.cs[4]? = some ⟨[0], [], 0, [4, 0], true⟩ := rfl
@[simp] theorem cs5 : pg.cs[5]? = some ⟨[1], [], 0, [5, 0], true⟩ := rfl
variable {n : Nat} {bs : List Nat} {S : Sto}
theorem f0 {d : D} (h : PlD d) : callF pg (n + 1) bs 0 [d] S = .ok (.bl (intD d)) S := by
  obtain ⟨⟨t, ht⟩, _⟩ := h
  refine call_rt (Df := d0) rfl rfl (by decide) ?_ (Nat.le_refl _)
  cases d <;> first | (cases ht; done) | rfl
theorem f1 {d : D} {lo hi : Int} (h : PlD d) : callF pg (n + 2) bs 1 [d, .int lo, .int hi] S = .ok (.bl (isNumD d lo hi)) S := by
  refine call_rt (Df := d1) rfl rfl (by decide) ?_ (Nat.le_refl _)
  simp [d1, h.2, f0 h]
  cases d with
  | int i => by_cases h1 : lo ≤ i <;> simp [intD, isNumD, cmpF, h1]
  | _ => simp [intD, isNumD]
theorem f2 {d : D} {hi : Int} (h : PlD d) : callF pg (n + 2) bs 2 [d, .int hi] S = .ok (.bl (isNumD d 0 (hi - 1))) S := by
  refine call_rt (Df := d2) rfl rfl (by decide) ?_ (Nat.le_refl _)
  simp [d2, h.2, f0 h]
  cases d with
  | int i =>
    have e : decide (i < hi) = decide (i ≤ hi - 1) := decide_eq_decide.mpr (by omega)
    by_cases h1 : 0 ≤ i <;> simp [intD, isNumD, cmpF, h1, e]
  | _ => simp [intD, isNumD]
theorem f3 {d : D} (h : PlD d) : callF pg (n + 3) bs 3 [d] S = if isNumD d 1 4 = true then .ok .non S else .ex 1 [d] S := by
  split
  · rename_i hh
    refine call_nx (e2 := [some d]) (Df := d3) rfl rfl (by decide) ?_ (Nat.le_refl _)
    simp [d3, h.2, f1 h, hh]
  · rename_i hh
    refine call_ex (e2 := [some d]) (Df := d3) rfl rfl (by decide) ?_ (Nat.le_refl _)
    simp [d3, h.2, f1 h, hh]
theorem f4 {d : D} {lo hi : Int} (h : PlD d) : callF pg (n + 3) bs 4 [d, .int lo, .int hi] S = if isNumD d lo hi = true then .ok .non S else .ex 2 [d] S := by
  split
  · rename_i hh
    refine call_nx (e2 := [some d, some (.int lo), some (.int hi)]) (Df := d4) rfl rfl (by decide) ?_ (Nat.le_refl _)
    simp [d4, h.2, f1 h, hh]
  · rename_i hh
    refine call_ex (e2 := [some d, some (.int lo), some (.int hi)]) (Df := d4) rfl rfl (by decide) ?_ (Nat.le_refl _)
    simp [d4, h.2, f1 h, hh]
theorem f20 {d : D} {lo hi : Int} (h : PlD d) : callF pg (n + 1) bs 20 [d, .int lo, .int hi] S = .ok (.bl (isNumD d lo hi)) S := by
  obtain ⟨⟨t, ht⟩, _⟩ := h
  refine call_rt (Df := d20) rfl rfl (by decide) ?_ (Nat.le_refl _)
  cases d with
  | int i => by_cases h1 : lo ≤ i <;> simp [d20, primF, tyD, look, subTy, isNumD, cmpF, h1, truth]
  | _ => first | (cases ht; done) | simp [d20, primF, tyD, look, subTy, isNumD, truth]
end Lw
end

section
set_option Elab.async false
set_option linter.all false
set_option maxRecDepth 100000
set_option maxHeartbeats 1000000
/-! M2: k01: bags are checked. -/
namespace Lw
open Dl
variable {n : Nat} {bs : List Nat} {S : Sto}
def tupD : D → Bool
  | .tup _ => true
  | _ => false
/-- plain data; a tuple's items are plain too -/
def PlT (d : D) : Prop := PlD d ∧ ∀ xs, d = .tup xs → ∀ x, x ∈ xs → PlD x
def srtB (xs : List D) : Bool := match intsD xs with
  | some l => l == sortI l
  | none => false
def isBagOf (v s : Int) (d : D) : Bool := match d with
  | .tup xs => decide ((xs.length : Int) = s) && (xs.all (fun x => isNumD x 0 (v - 1)) && srtB xs)
  | _ => false
theorem isi_tup {d : D} (h : PlD d) : primF (.isi [.tuple]) [d] S = .ok (.bl (tupD d)) S := by
  obtain ⟨⟨t, ht⟩, _⟩ := h
  cases d <;> first | (cases ht; done) | rfl
theorem nums_of {lo hi : Int} : ∀ {xs : List D}, xs.all (fun x => isNumD x lo hi) = true → ∃ l : List Int, xs = l.map .int ∧ ∀ i, i ∈ l → lo ≤ i ∧ i ≤ hi
  | [], _ => ⟨[], rfl, fun i h => absurd h List.not_mem_nil⟩
  | x :: xs, h => by
    rw [List.all_cons, Bool.and_eq_true] at h
    obtain ⟨l, rfl, hl⟩ := nums_of h.2
    cases x with
    | int i =>
      have h1 := h.1
      simp [isNumD] at h1
      refine ⟨i :: l, rfl, fun j hj => ?_⟩
      rcases List.mem_cons.mp hj with rfl | hj
      · exact h1
      · exact hl j hj
    | _ => simp [isNumD] at h
theorem frzL_of : ∀ {xs : List D}, (∀ x, x ∈ xs → frz x = x) → frzL xs = xs
  | [], _ => rfl
  | x :: xs, h => by rw [frzL_cons, h x List.mem_cons_self, frzL_of fun y hy => h y (List.mem_cons_of_mem _ hy)]
theorem flat_bl (p : D → Bool) : ∀ xs : List D, (xs.flatMap fun x => [D.bl (p x)]) = (xs.map p).map D.bl
  | [] => rfl
  | x :: xs => by rw [List.flatMap_cons, flat_bl p xs]; rfl
theorem sort_eq {S : Sto} {xs : List D} {l : List Int} (h : xs = l.map .int) : cmpF .Eq (.lst true xs) (.lst true ((sortI l).map .int)) S = some (l == sortI l) := by
  subst h
  show (match norm S (.lst true (l.map .int)), norm S (.lst true ((sortI l).map .int)) with | some x, some y => some (eqD x y) | _, _ => none) = _
  rw [norm_lst, norm_lst]
  show some (eqL _ _) = _
  rw [eqL_ints]
theorem f5 {v s : Int} {d : D} (h : PlT d) (hz : ∀ xs, d = .tup xs → xs.length < PySem.sizeLine) : callF pg (n + 3) bs 5 [.int v, .int s, d] S = .ok (.bl (isBagOf v s d)) S := by
  refine call_rt (Df := d5) rfl rfl (by decide) ?_ (Nat.le_refl _)
  simp [d5, isi_tup h.1]
  cases d with
  | tup xs =>
    have hx := h.2 xs rfl
    have fz : frzL xs = xs := frzL_of fun x hx' => (hx x hx').2
    by_cases hl : (xs.length : Int) = s
    · have hlc : ev pg (callF pg (n + 2)) (S.length :: bs) (E.lc [3] (E.call 2 [E.var 3, E.var 0]) [G.mk (Tg.nm 3) (It.e (E.var 2)) []]) [some (D.int v), some (D.int s), some (D.tup xs), none] S = .ok (.lst true (xs.map fun x => D.bl (isNumD x 0 (v - 1)))) S :=
        lc_pure (xs := xs) (g := fun x => D.bl (isNumD x 0 (v - 1))) (by simp [itF, fz]) (fun x hx' => ⟨[some (D.int v), some (D.int s), some (.tup xs), some x], by simp [wipeE], by simp [(hx x hx').2, f2 (hx x hx')]⟩) (hz xs rfl)
      have e : boolsD (xs.map fun x => D.bl (isNumD x 0 (v - 1))) = some (xs.map fun x => isNumD x 0 (v - 1)) := by
        have := boolsD_map (xs.map fun x => isNumD x 0 (v - 1))
        rw [List.map_map] at this
        exact this
      cases ha : xs.all fun x => isNumD x 0 (v - 1) with
      | false =>
        have ha' : (xs.map fun x => isNumD x 0 (v - 1)).all id = false := by rw [List.all_map]; exact ha
        simp [tupD, hl, hlc, primF, kids, look, e, ha', isBagOf, ha]
      | true =>
        have ha' : (xs.map fun x => isNumD x 0 (v - 1)).all id = true := by rw [List.all_map]; exact ha
        obtain ⟨l, hxl, _⟩ := nums_of ha
        have hn : intsD xs = some l := by rw [hxl]; exact intsD_map l
        simp [tupD, hl, hlc, primF, kids, look, e, ha', isBagOf, srtB, ha, hn, sort_eq hxl]
    · simp [tupD, hl, isBagOf]
  | _ => simp [tupD, isBagOf]
end Lw
end

section
set_option Elab.async false
set_option linter.all false
set_option maxRecDepth 100000
set_option maxHeartbeats 1000000
/-! M3: k01: bags are checked, by both. -/
namespace Lw
open Dl
variable {n : Nat} {bs : List Nat} {S : Sto}
def isBag (v : Int) (d : D) : Bool := match d with
  | .tup xs => decide ((xs.length : Int) ≤ 6) && (xs.all (fun x => isNumD x 0 (v - 1)) && srtB xs)
  | _ => false
theorem f6 {v : Int} {d : D} (h : PlT d) : callF pg (n + 4) bs 6 [.int v, d] S = .ok (.bl (isBag v d)) S := by
  refine call_rt (Df := d6) rfl rfl (by decide) ?_ (Nat.le_refl _)
  simp [d6, isi_tup h.1]
  cases d with
  | tup xs =>
    have fz := h.1.2
    rw [frz_tup] at fz
    by_cases hl : (xs.length : Int) ≤ 6
    · have e := f5 (n := n) (bs := S.length :: bs) (S := S) (v := v) (s := xs.length) h (fun ys hy => by cases hy; rw [PySem.sizeLine_eq]; omega)
      simp [tupD, hl, fz, e, isBag, isBagOf]
    · simp [tupD, hl, isBag]
  | _ => simp [tupD, isBag]
theorem f21 {v : Int} {d : D} (h : PlT d) : callF pg (n + 2) bs 21 [.int v, d] S = .ok (.bl (isBag v d)) S := by
  refine call_rt (Df := d21) rfl rfl (by decide) ?_ (Nat.le_refl _)
  simp [d21, isi_tup h.1]
  cases d with
  | tup xs =>
    have hx := h.2 xs rfl
    have fz : frzL xs = xs := frzL_of fun x hx' => (hx x hx').2
    by_cases hl : (xs.length : Int) ≤ 6
    · have hl2 : ¬ 6 < (xs.length : Int) := by omega
      obtain ⟨k1, k2⟩ := for_all (T := pg) (C := callF pg (n + 1)) (b := S.length :: bs) (S := S) (t := .nm 2) (it := .e (.var 1)) (body := [.ite (.not (.e (.call 20 [(.var 2), (.cst (.int 0)), (.bin .Sub (.var 0) (.cst (.int 1)))]))) [.ret (some (.cst (.bl false)))] []])
        (p := fun x => isNumD x 0 (v - 1)) (r := .bl false) (xs := xs) (σ := [some (.int v), some (.tup xs), none]) (P := fun σ => ∃ y, σ = [some (.int v), some (.tup xs), y]) (by simp [itF, fz]) (fun x hx' σ hσ => by
          obtain ⟨y, rfl⟩ := hσ
          exact ⟨[some (.int v), some (.tup xs), some x], by simp, fun hp => ⟨[some (.int v), some (.tup xs), some x], by simp [(hx x hx').2, f20 (hx x hx'), hp], _, rfl⟩, fun hp => by simp [(hx x hx').2, f20 (hx x hx'), hp]⟩) ⟨none, rfl⟩
      cases ha : xs.all fun x => isNumD x 0 (v - 1) with
      | false => simp [tupD, hl2, k2 ha, isBag, ha]
      | true =>
        obtain ⟨σ', e, y, rfl⟩ := k1 ha
        obtain ⟨l, hxl, _⟩ := nums_of ha
        have hn : intsD xs = some l := by rw [hxl]; exact intsD_map l
        simp [tupD, hl2, e, isBag, srtB, ha, hl, hn, primF, kids, look, sort_eq hxl]
    · have hl2 : 6 < (xs.length : Int) := by omega
      simp [tupD, hl2, isBag, hl]
  | _ => simp [tupD, isBag]
end Lw
end

section
set_option Elab.async false
set_option linter.all false
set_option maxRecDepth 100000
set_option maxHeartbeats 1000000
/-! M4: k01: all bags. -/
namespace Lw
open Dl
variable {n : Nat} {bs : List Nat} {S : Sto}
def mx (b : List Int) : Int := b.foldl max 0
def rngI (lo hi : Int) : List Int := (List.range (hi - lo).toNat).map fun k => lo + (k : Nat)
def bagsL (v : Nat) : Nat → List (List Int)
  | 0 => [[]]
  | s + 1 => (bagsL v s).flatMap fun b => (rngI (mx b) v).map fun x => b ++ [x]
def bagD (b : List Int) : D := .tup (b.map .int)
def bagsD (v s : Nat) : List D := (bagsL v s).map bagD
theorem rngL_eq (lo hi : Int) : rngL lo hi = (rngI lo hi).map .int := by
  unfold rngL rngI
  rw [List.map_map]
  rfl
theorem mx_bd : ∀ (b : List Int) (a hi : Int), a < hi → (∀ i, i ∈ b → i < hi) → a ≤ b.foldl max a ∧ b.foldl max a < hi
  | [], a, hi, h, _ => ⟨Int.le_refl _, h⟩
  | i :: b, a, hi, h, hb => by
    have h1 := hb i List.mem_cons_self
    obtain ⟨k1, k2⟩ := mx_bd b (max a i) hi (by omega) fun j hj => hb j (List.mem_cons_of_mem _ hj)
    exact ⟨by rw [List.foldl_cons]; omega, k2⟩
theorem bags_mem {v : Nat} : ∀ {s : Nat} {b : List Int}, b ∈ bagsL v s → b.length = s ∧ ∀ i, i ∈ b → 0 ≤ i ∧ i < (v : Int)
  | 0, b, h => by
    have : b = [] := by simpa [bagsL] using h
    subst this
    exact ⟨rfl, fun i h => absurd h List.not_mem_nil⟩
  | s + 1, b, h => by
    rw [bagsL, List.mem_flatMap] at h
    obtain ⟨c, hc, hb⟩ := h
    obtain ⟨h1, h2⟩ := bags_mem hc
    obtain ⟨x, hx, rfl⟩ := List.mem_map.mp hb
    refine ⟨by rw [List.length_append, h1]; rfl, fun i hi => ?_⟩
    rcases List.mem_append.mp hi with hi | hi
    · exact h2 i hi
    · cases List.mem_singleton.mp hi
      unfold rngI at hx
      obtain ⟨k, hk, rfl⟩ := List.mem_map.mp hx
      have hk' := List.mem_range.mp hk
      have : 0 ≤ mx c := by
        unfold mx
        by_cases hv : 0 < (v : Int)
        · exact (mx_bd c 0 v hv fun i hi => (h2 i hi).2).1
        · cases c with
          | nil => exact Int.le_refl _
          | cons i c => have := h2 i List.mem_cons_self; omega
      omega
theorem bags_few : ∀ v, v ≤ 4 → ∀ s, s ≤ 6 → (bagsL v s).length ≤ 84 := by decide +kernel
theorem pullA_same {g : D → List Nat → Option (D × List Nat)} {rs : List Nat} : ∀ {xs : List D}, (∀ x, x ∈ xs → g x rs = some (x, rs)) → pullA g xs rs = some (xs, rs)
  | [], _ => rfl
  | x :: xs, h => by
    rw [pullA, h x List.mem_cons_self]
    dsimp only
    rw [pullA_same fun y hy => h y (List.mem_cons_of_mem _ hy)]
theorem pull_int {S : Sto} {b f : Nat} {i : Int} {rs : List Nat} : pull S b f (.int i) rs = some (.int i, rs) := by
  cases f <;> rfl
theorem pull_bag {S : Sto} {b f : Nat} {l : List Int} {rs : List Nat} : pull S b (f + 1) (bagD l) rs = some (bagD l, rs) := by
  show (match pullA (pull S b f) (l.map .int) rs with | some (ys, rs) => some (D.tup ys, rs) | none => none) = _
  rw [pullA_same fun x hx => by obtain ⟨i, _, rfl⟩ := List.mem_map.mp hx; exact pull_int]
  rfl
def ysD (v : Int) (d : D) : List D := match d with
  | .tup xs => (match intsD xs with
    | some l => rngL (mx l) v
    | none => [])
  | _ => []
def gD (d y : D) : D := match d with
  | .tup xs => .tup (xs ++ [y])
  | _ => d
theorem bags_step (v s : Nat) : ((bagsD v s).flatMap fun x => (ysD v x).map (gD x)) = bagsD v (s + 1) := by
  unfold bagsD
  rw [bagsL, List.flatMap_map, List.map_flatMap]
  congr 1
  funext b
  show (ysD v (bagD b)).map (gD (bagD b)) = ((rngI (mx b) v).map fun x => b ++ [x]).map bagD
  have e : ysD v (bagD b) = (rngI (mx b) v).map .int := by
    show (match intsD (b.map .int) with | some l => rngL (mx l) v | none => []) = _
    rw [intsD_map]
    exact rngL_eq _ _
  rw [e, List.map_map, List.map_map]
  congr 1
  funext x
  show D.tup (b.map .int ++ [.int x]) = D.tup ((b ++ [x]).map .int)
  rw [List.map_append]
  rfl
theorem small_of {i : Int} (h1 : -100000 ≤ i) (h2 : i ≤ 100000) : small i = true := by
  unfold small
  exact decide_eq_true ⟨by omega, by omega⟩
theorem bags_ev {v s m : Nat} {C : List Nat → Nat → List D → Sto → R D} {b : List Nat} {S : Sto} {y z : Option D} {w1 w2 : Option D} (hv : v ≤ 4) (hs : s < 6) (hc : S[m]? = some (.lst true (bagsD v s))) :
    ev pg C b (.lc [4, 5] (.tup [(.star (.var 4)), (.var 5)]) [.mk (.nm 4) (.e (.var 2)) [], .mk (.nm 5) (.rng [(.prim .max1 [(.tup [(.cst (.int 0)), (.star (.var 4))])]), (.var 0)]) []]) [some (.int v), y, some (.ref m), z, w1, w2] S = .ok (.lst true (bagsD v (s + 1))) S := by
  have hl : (bagsD v s).length ≤ 84 := by unfold bagsD; rw [List.length_map]; exact bags_few v hv s (by omega)
  have := lc2_pure (T := pg) (C := C) (b := b) (own := [4, 5]) (elt := .tup [(.star (.var 4)), (.var 5)]) (t := .nm 4) (it := .e (.var 2)) (t1 := .nm 5) (it1 := .rng [(.prim .max1 [(.tup [(.cst (.int 0)), (.star (.var 4))])]), (.var 0)])
    (σ := [some (.int v), y, some (.ref m), z, w1, w2]) (S := S) (xs := bagsD v s) (n := m) (ys := ysD v) (g := gD) (by simp [itF, hc]) (by unfold cellAt; rw [hc]; dsimp only; rw [if_pos rfl]) (fun x hx => ?_) (by rw [bags_step]; unfold bagsD; rw [List.length_map, PySem.sizeLine_eq]; have := bags_few v hv (s + 1) (by omega); omega)
  · rw [this, bags_step]
  · unfold bagsD at hx
    obtain ⟨l, hl2, rfl⟩ := List.mem_map.mp hx
    obtain ⟨h1, h2⟩ := bags_mem hl2
    have hz : l.length + 1 ≤ PySem.sizeLine := by rw [PySem.sizeLine_eq]; omega
    have hm : 0 ≤ mx l ∧ mx l ≤ 4 := by
      unfold mx
      have := mx_bd l 0 5 (by omega) fun i hi => by have := h2 i hi; omega
      omega
    have hmx : intsD (D.int 0 :: l.map .int) = some (0 :: l) := intsD_map (0 :: l)
    refine ⟨[some (.int v), y, some (.ref m), z, some (bagD l), none], by simp [wipeE], ?_, fun w hw => ⟨[some (.int v), y, some (.ref m), z, some (bagD l), some w], by simp, ?_⟩⟩
    · have s1 : small (mx l) = true := small_of (by omega) (by omega)
      have s2 : small (v : Int) = true := small_of (by omega) (by omega)
      have e : ysD v (bagD l) = rngL (mx l) v := by
        show (match intsD (l.map .int) with | some l => rngL (mx l) v | none => []) = _
        rw [intsD_map]
      unfold mx at s1 e
      simp [bagD, kids, look, primF, hmx, hz, rngF, s1, s2, e]
      exact e.symm
    · simp [bagD, kids, look, gD, hz]
end Lw
end

section
set_option Elab.async false
set_option linter.all false
set_option maxRecDepth 100000
set_option maxHeartbeats 1000000
/-! M5: k01: all bags, by both. -/
namespace Dl
theorem forL_inv {f : D → Env → Sto → RS} {P : Nat → Env → Sto → Prop} : ∀ {xs : List D} {j : Nat} {σ : Env} {S : Sto}, (∀ k x σ S, xs[k]? = some x → P (j + k) σ S → ∃ σ' S', f x σ S = .nx σ' S' ∧ P (j + k + 1) σ' S') → P j σ S → ∃ σ' S', forL f xs σ S = .nx σ' S' ∧ P (j + xs.length) σ' S'
  | [], j, σ, S, _, h => ⟨σ, S, rfl, h⟩
  | x :: xs, j, σ, S, hf, h => by
    obtain ⟨σ1, S1, e, h1⟩ := hf 0 x σ S rfl h
    obtain ⟨σ2, S2, e2, h2⟩ := forL_inv (f := f) (P := P) (xs := xs) (j := j + 1) (σ := σ1) (S := S1) (fun k y σ S hk hP => by
      have := hf (k + 1) y σ S (by simpa using hk) (by rw [show j + (k + 1) = j + 1 + k by omega]; exact hP)
      rw [show j + (k + 1) + 1 = j + 1 + k + 1 by omega] at this
      exact this) h1
    refine ⟨σ2, S2, ?_, ?_⟩
    · rw [forL, e]
      exact e2
    · rw [List.length_cons, show j + (xs.length + 1) = j + 1 + xs.length by omega]
      exact h2
section
variable {T : Pg} {C : List Nat → Nat → List D → Sto → R D} {b : List Nat} {σ : Env} {S : Sto} {t : Tg} {it : It} {xs : List D} {body : List Dl.S}
theorem for_inv {P : Nat → Env → Sto → Prop} (hi : evI T C b it σ S = .ok (.its xs) S) (h : ∀ k x σ S, xs[k]? = some x → P k σ S → ∃ σ1 σ' S', asgV t x σ S = some σ1 ∧ execs T C b body σ1 S = .nx σ' S' ∧ P (k + 1) σ' S') (h0 : P 0 σ S) :
    ∃ σ' S', exec T C b (.for_ t it body) σ S = .nx σ' S' ∧ P xs.length σ' S' := by
  rw [exec_for, hi]
  simp only [rsof_ok]
  have := forL_inv (f := fun x σ S => (match asgV t x σ S with | some σ => execs T C b body σ S | none => .er)) (P := P) (xs := xs) (j := 0) (σ := σ) (S := S) (fun k x σ S hk hP => by
    rw [Nat.zero_add] at hP
    obtain ⟨σ1, σ', S', h1, h2, h3⟩ := h k x σ S hk hP
    refine ⟨σ', S', ?_, by rw [Nat.zero_add]; exact h3⟩
    rw [h1]
    exact h2) h0
  rw [Nat.zero_add] at this
  exact this
end
end Dl
namespace Lw
open Dl
variable {n : Nat} {bs : List Nat} {S : Sto}
theorem rng1 (s : Int) (S : Sto) (h : small s = true) : rngF [.int s] S = .ok (.its (rngL 0 s)) S := by
  rw [rngF, if_pos h]
theorem rng2 (i s : Int) (S : Sto) (h : small i = true) (h2 : small s = true) : rngF [.int i, .int s] S = .ok (.its (rngL i s)) S := by
  rw [rngF, if_pos (by rw [h, h2]; rfl)]
theorem rng_it {C : List Nat → Nat → List D → Sto → R D} {b : List Nat} {σ : Env} {S : Sto} {i s : Nat} (h : σ[i]? = some (some (.int s))) (hs : s ≤ 100) : evI pg C b (.rng [.var i]) σ S = .ok (.its (rngL 0 s)) S := by
  have e : evs pg C b [.var i] σ S = .ok [.int s] S := by simp only [evs_var, ev_var, h, bind_ok, evs_nil]
  rw [evI_rng, e, bind_ok, rng1 _ _ (small_of (by omega) (by omega))]
theorem rng_len (s : Nat) : (rngL 0 s).length = s := by unfold rngL; simp
theorem fz_bags : ∀ l : List (List Int), frzL (l.map bagD) = l.map bagD
  | [] => rfl
  | b :: l => by rw [List.map_cons, frzL_cons, fz_bags l]; unfold bagD; rw [frz_tup, frzL_ints]
theorem pl_bags : ∀ (l : List (List Int)) (S : Sto), plantL 0 (l.map bagD) S = (l.map bagD, S)
  | [], S => rfl
  | b :: l, S => by
    have e0 : plant 0 (bagD b) S = (bagD b, S) := by
      unfold plant bagD
      rw [frz_tup, frzL_ints]
    rw [List.map_cons, plantL, e0]
    dsimp only
    rw [pl_bags l S]
theorem pl_all (v k : Nat) (S : Sto) : plant 1 (.lst true (bagsD v k)) S = (.ref S.length, S ++ [.lst true (bagsD v k)]) := by
  rw [plant]
  unfold bagsD
  rw [pl_bags]
theorem lv_bags (v s j : Nat) (S E : Sto) (hlen : E.length = j + 1) (hc : E[j]? = some (.lst true (bagsD v s))) : leave S.length (.ref (S.length + j)) (S ++ E) = some (.lst true (bagsD v s), S) := by
  have hlt : ¬ (S ++ E).length ≤ S.length := by rw [List.length_append, hlen]; omega
  have hget : (S ++ E)[S.length + j]? = some (.lst true (bagsD v s)) := by rw [List.getElem?_append_right (by omega), show S.length + j - S.length = j by omega]; exact hc
  have hp : pull (S ++ E) S.length 12 (.ref (S.length + j)) [] = some (.lst true (bagsD v s), [S.length + j]) := by
    rw [pull, if_neg (by omega), hget]
    dsimp only
    rw [pullA_same fun x hx => by unfold bagsD at hx; obtain ⟨l, _, rfl⟩ := List.mem_map.mp hx; exact pull_bag]
  have hn : noR S.length (.ref (S.length + j)) = false := decide_eq_false (by omega)
  unfold leave
  rw [if_neg hlt, hn, if_neg Bool.false_ne_true, hp]
  dsimp only
  rw [if_pos (List.nodup_cons.mpr ⟨List.not_mem_nil, List.nodup_nil⟩), List.take_left]
abbrev body7 : List Dl.S := [.asg (.nm 2) (.pl 1 (.lc [4, 5] (.tup [(.star (.var 4)), (.var 5)]) [.mk (.nm 4) (.e (.var 2)) [], .mk (.nm 5) (.rng [(.prim .max1 [(.tup [(.cst (.int 0)), (.star (.var 4))])]), (.var 0)]) []]))]
def inv7 (v s : Nat) (S : Sto) : Nat → Env → Sto → Prop := fun k σ S' => ∃ (m : Nat) (w : Option D) (E : Sto), σ = [some (.int v), some (.int s), some (.ref (S.length + m)), w, none, none] ∧ S' = S ++ E ∧ E.length = m + 1 ∧ E[m]? = some (.lst true (bagsD v k))
theorem step7 {v s k : Nat} {S : Sto} {C : List Nat → Nat → List D → Sto → R D} {b : List Nat} (hv : v ≤ 4) (hs : s ≤ 6) (hks : k < s) (x : D) (σ : Env) (S' : Sto) (hP : inv7 v s S k σ S') : ∃ σ1 σ' S2, asgV (.nm 3) x σ S' = some σ1 ∧ execs pg C b body7 σ1 S' = .nx σ' S2 ∧ inv7 v s S (k + 1) σ' S2 := by
  obtain ⟨m, w, E, rfl, rfl, hE, hc⟩ := hP
  have hget : (S ++ E)[S.length + m]? = some (.lst true (bagsD v k)) := by rw [List.getElem?_append_right (by omega), show S.length + m - S.length = m by omega]; exact hc
  refine ⟨[some (.int v), some (.int s), some (.ref (S.length + m)), some x, none, none], [some (.int v), some (.int s), some (.ref (S.length + (m + 1))), some x, none, none], S ++ (E ++ [.lst true (bagsD v (k + 1))]), rfl, ?_, m + 1, some x, E ++ [.lst true (bagsD v (k + 1))], rfl, rfl, by rw [List.length_append, hE]; rfl, by rw [List.getElem?_append_right (by omega), hE, Nat.sub_self]; rfl⟩
  rw [execs_cons, exec_asg, ev_pl, bags_ev hv (show k < 6 by omega) hget, bind_ok, pl_all, rsof_ok, frz_ref, asgV_nm, if_pos (by simp)]
  dsimp only
  rw [execs_nil]
  have e : (S ++ E).length = S.length + (m + 1) := by rw [List.length_append, hE]
  rw [e, List.append_assoc]
  rfl
theorem f7 {v s : Nat} (hv : v ≤ 4) (hs : s ≤ 6) : callF pg (n + 1) bs 7 [.int v, .int s] S = .ok (.lst true (bagsD v s)) S := by
  obtain ⟨σ', S', e, j, w, E, rfl, rfl, hlen, hc⟩ := for_inv (T := pg) (C := callF pg n) (b := S.length :: bs) (t := .nm 3) (it := .rng [.var 1]) (xs := rngL 0 s) (σ := [some (.int v), some (.int s), some (.ref S.length), none, none, none]) (S := S ++ [.lst true [.tup []]])
    (body := body7) (P := inv7 v s S) (rng_it rfl (by omega)) (fun k x σ S' hk hP => step7 hv hs (by have := (List.getElem?_eq_some_iff.mp hk).1; rw [rng_len] at this; exact this) x σ S' hP) ⟨0, none, [.lst true [.tup []]], rfl, rfl, rfl, rfl⟩
  rw [rng_len] at hc
  have one : 1 ≤ PySem.sizeLine := by rw [PySem.sizeLine_eq]; omega
  have e0 : exec pg (callF pg n) (S.length :: bs) (.asg (.nm 2) (.pl 1 (.lst [(.tup [])]))) [some (.int v), some (.int s), none, none, none, none] S = .nx [some (.int v), some (.int s), some (.ref S.length), none, none, none] (S ++ [.lst true [.tup []]]) := by
    simp [one, plant, plantL]
  have step : execs pg (callF pg n) (S.length :: bs) d7.body [some (.int v), some (.int s), none, none, none, none] S = .rt (.ref (S.length + j)) (S ++ E) := by
    show execs pg (callF pg n) (S.length :: bs) [.asg (.nm 2) (.pl 1 (.lst [(.tup [])])), .for_ (.nm 3) (.rng [(.var 1)]) body7, .ret (some (.var 2))] _ S = _
    rw [execs_cons, e0]
    dsimp only
    rw [execs_cons, e]
    dsimp only
    rw [execs_cons, exec_ret, ev_var]
    rfl
  exact call_rt2 (Df := d7) rfl rfl (by decide) step (lv_bags v s j S E hlen hc)
end Lw
end

section
set_option Elab.async false
set_option linter.all false
set_option maxRecDepth 100000
set_option maxHeartbeats 1000000
/-! M6: k01: the law's own bags. -/
namespace Lw
open Dl
variable {n : Nat} {bs : List Nat} {S : Sto}
theorem cmp_bag (b : List Int) (S : Sto) : cmpF .NotEq (bagD b) (.tup []) S = some (!(b == [])) := by
  have h1 : norm S (bagD b) = some (bagD b) := norm_tup S b
  have h2 : norm S (.tup []) = some (.tup []) := norm_tup S []
  have : cmpF .NotEq (bagD b) (.tup []) S = (match norm S (bagD b), norm S (.tup []) with | some x, some y => some (!eqD x y) | _, _ => none) := rfl
  rw [this, h1, h2]
  show some (!eqL (b.map .int) []) = _
  rw [show ([] : List D) = ([] : List Int).map .int from rfl, eqL_ints]
theorem add_tup (xs ys : List D) (S : Sto) (h : xs.length + ys.length ≤ PySem.sizeLine) : binF .Add (.tup xs) (.tup ys) S = .ok (.tup (xs ++ ys)) S := by
  rw [binF, if_pos h]
theorem add_lst (o o2 : Bool) (xs ys : List D) (S : Sto) (h : xs.length + ys.length ≤ PySem.sizeLine) : binF .Add (.lst o xs) (.lst o2 ys) S = .ok (.lst true (xs ++ ys)) S := by
  have : binF .Add (.lst o xs) (.lst o2 ys) S = if xs.length + ys.length ≤ PySem.sizeLine then .ok (.lst true (xs ++ ys)) S else .er := rfl
  rw [this, if_pos h]
def stepB (v : Nat) (b : List Int) : List (List Int) := (rngI (mx b) v).map fun x => b ++ [x]
theorem bags_succ (v s : Nat) : bagsL v (s + 1) = (bagsL v s).flatMap (stepB v) := rfl
theorem lc_add {v : Nat} {b : List Int} {C : List Nat → Nat → List D → Sto → R D} {fr : List Nat} {S : Sto} {y2 y3 y4 y7 ys : Option D} (hv : v ≤ 4) (hl : b.length ≤ 10) (hm : 0 ≤ mx b ∧ mx b ≤ 4) :
    ev pg C fr (.lc [7] (.bin .Add (.var 5) (.tup [(.var 7)])) [.mk (.nm 7) (.rng [(.var 6), (.var 0)]) []]) [some (.int v), ys, y2, y3, y4, some (bagD b), some (.int (mx b)), y7] S = .ok (.lst true ((stepB v b).map bagD)) S := by
  have := lc_pure (T := pg) (C := C) (b := fr) (own := [7]) (elt := .bin .Add (.var 5) (.tup [(.var 7)])) (t := .nm 7) (it := .rng [(.var 6), (.var 0)]) (σ := [some (.int v), ys, y2, y3, y4, some (bagD b), some (.int (mx b)), y7]) (S := S) (xs := rngL (mx b) v) (g := fun y => D.tup (b.map .int ++ [y]))
    (by
      have e : evs pg C fr [.var 6, .var 0] [some (.int v), ys, y2, y3, y4, some (bagD b), some (.int (mx b)), y7] S = .ok [.int (mx b), .int v] S := by simp only [evs_var, ev_var, List.getElem?_cons_zero, List.getElem?_cons_succ, bind_ok, evs_nil]
      rw [evI_rng, e, bind_ok, rng2 _ _ _ (small_of (by omega) (by omega)) (small_of (by omega) (by omega))])
    (fun x hx => ⟨[some (.int v), ys, y2, y3, y4, some (bagD b), some (.int (mx b)), some x], rfl, by
      have one : 1 ≤ PySem.sizeLine := by rw [PySem.sizeLine_eq]; omega
      have : binF .Add (bagD b) (.tup [x]) S = .ok (.tup (b.map .int ++ [x])) S := add_tup _ _ _ (by rw [List.length_map, PySem.sizeLine_eq]; simp; omega)
      simp [one, this]⟩)
    (by rw [rngL_eq, List.length_map]; unfold rngI; rw [List.length_map, List.length_range, PySem.sizeLine_eq]; omega)
  rw [this]
  have e : (rngL (mx b) v).map (fun y => D.tup (b.map .int ++ [y])) = (stepB v b).map bagD := by
    unfold stepB
    rw [rngL_eq, List.map_map, List.map_map]
    congr 1
    funext x
    show D.tup (b.map .int ++ [.int x]) = D.tup ((b ++ [x]).map .int)
    rw [List.map_append]
    rfl
  rw [e]
abbrev in19 : List Dl.S := [.asg (.nm 6) (.ite (.e (.cmp .NotEq (.var 5) (.tup []))) (.prim .max1 [(.var 5)]) (.cst (.int 0))), .asg (.nm 4) (.bin .Add (.var 4) (.lc [7] (.bin .Add (.var 5) (.tup [(.var 7)])) [.mk (.nm 7) (.rng [(.var 6), (.var 0)]) []]))]
abbrev out19 : List Dl.S := [.asg (.nm 4) (.lst []), .for_ (.nm 5) (.e (.var 2)) in19, .asg (.nm 2) (.var 4)]
def inv19 (v s k : Nat) (w3 : Option D) (S : Sto) : Nat → Env → Sto → Prop := fun j σ S' => S' = S ∧ ∃ w5 w6 w7, σ = [some (.int v), some (.int s), some (.lst false (bagsD v k)), w3, some (.lst false ((((bagsL v k).take j).flatMap (stepB v)).map bagD)), w5, w6, w7]
theorem max_bag {b : List Int} (h : ∀ i, i ∈ b → 0 ≤ i) (hn : b ≠ []) (S : Sto) : primF .max1 [bagD b] S = .ok (.int (mx b)) S := by
  cases b with
  | nil => exact absurd rfl hn
  | cons x l =>
    have h0 : 0 ≤ x := h x List.mem_cons_self
    have e : intsD ((x :: l).map .int) = some (x :: l) := intsD_map (x :: l)
    show (match (some ((x :: l).map D.int)).bind intsD with | some (x :: l) => R.ok (D.int (l.foldl max x)) S | _ => .er) = _
    rw [Option.bind_some, e]
    dsimp only
    unfold mx
    rw [List.foldl_cons, show max 0 x = x by omega]
theorem flat_len (v : Nat) (hv : v ≤ 4) (k j : Nat) (hk : k < 6) : (((bagsL v k).take j).flatMap (stepB v)).length ≤ 84 := by
  have h := bags_few v hv (k + 1) (by omega)
  rw [bags_succ] at h
  have e : bagsL v k = (bagsL v k).take j ++ (bagsL v k).drop j := (List.take_append_drop j _).symm
  rw [e, List.flatMap_append, List.length_append] at h
  omega
theorem step19 {v s k j : Nat} {w3 : Option D} {S : Sto} {C : List Nat → Nat → List D → Sto → R D} {fr : List Nat} (hv : v ≤ 4) (hk : k < 6) (x : D) (σ : Env) (S' : Sto) (hx : (bagsD v k)[j]? = some x) (hP : inv19 v s k w3 S j σ S') : ∃ σ1 σ' S2, asgV (.nm 5) x σ S' = some σ1 ∧ execs pg C fr in19 σ1 S' = .nx σ' S2 ∧ inv19 v s k w3 S (j + 1) σ' S2 := by
  obtain ⟨rfl, w5, w6, w7, rfl⟩ := hP
  unfold bagsD at hx
  rw [List.getElem?_map] at hx
  cases hb : (bagsL v k)[j]? with
  | none => rw [hb] at hx; cases hx
  | some b =>
    rw [hb] at hx
    cases hx
    obtain ⟨h1, h2⟩ := bags_mem (List.mem_of_getElem? hb)
    have hm : 0 ≤ mx b ∧ mx b ≤ 4 := by
      unfold mx
      have := mx_bd b 0 5 (by omega) fun i hi => by have := h2 i hi; omega
      omega
    have ht : (bagsL v k).take (j + 1) = (bagsL v k).take j ++ [b] := by
      rw [List.take_succ, hb]
      rfl
    refine ⟨[some (.int v), some (.int s), some (.lst false (bagsD v k)), w3, some (.lst false ((((bagsL v k).take j).flatMap (stepB v)).map bagD)), some (bagD b), w6, w7],
      [some (.int v), some (.int s), some (.lst false (bagsD v k)), w3, some (.lst false ((((bagsL v k).take (j + 1)).flatMap (stepB v)).map bagD)), some (bagD b), some (.int (mx b)), w7], S', rfl, ?_, rfl, some (bagD b), some (.int (mx b)), w7, rfl⟩
    have e1 : exec pg C fr (.asg (.nm 6) (.ite (.e (.cmp .NotEq (.var 5) (.tup []))) (.prim .max1 [(.var 5)]) (.cst (.int 0)))) [some (.int v), some (.int s), some (.lst false (bagsD v k)), w3, some (.lst false ((((bagsL v k).take j).flatMap (stepB v)).map bagD)), some (bagD b), w6, w7] S' =
        .nx [some (.int v), some (.int s), some (.lst false (bagsD v k)), w3, some (.lst false ((((bagsL v k).take j).flatMap (stepB v)).map bagD)), some (bagD b), some (.int (mx b)), w7] S' := by
      by_cases hn : b = []
      · subst hn
        simp [cmp_bag, mx]
      · have hf : (b == []) = false := by simpa using hn
        simp [cmp_bag, hf, max_bag (fun i hi => (h2 i hi).1) hn]
    have e2 : binF .Add (.lst false ((((bagsL v k).take j).flatMap (stepB v)).map bagD)) (.lst true ((stepB v b).map bagD)) S' = .ok (.lst true ((((bagsL v k).take (j + 1)).flatMap (stepB v)).map bagD)) S' := by
      have l1 := flat_len v hv k (j + 1) hk
      rw [ht, List.flatMap_append] at l1
      rw [add_lst]
      · rw [ht, List.flatMap_append, List.map_append, List.flatMap_cons, List.flatMap_nil, List.append_nil]
      · rw [List.length_map, List.length_map, PySem.sizeLine_eq]
        rw [List.length_append, List.flatMap_cons, List.flatMap_nil, List.append_nil] at l1
        omega
    rw [execs_cons, e1]
    dsimp only
    rw [execs_cons, exec_asg, ev_bin, ev_var]
    simp only [List.getElem?_cons_zero, List.getElem?_cons_succ, bind_ok]
    rw [lc_add hv (by omega) hm, bind_ok, e2, rsof_ok, frz_lst, fz_bags]
    rfl
theorem turn19 {v s k : Nat} {S : Sto} {C : List Nat → Nat → List D → Sto → R D} {fr : List Nat} {w4 w5 w6 w7 : Option D} (hv : v ≤ 4) (hk : k < 6) (x : D) :
    ∃ a5 a6 a7, execs pg C fr out19 [some (.int v), some (.int s), some (.lst false (bagsD v k)), some x, w4, w5, w6, w7] S = .nx [some (.int v), some (.int s), some (.lst false (bagsD v (k + 1))), some x, some (.lst false (bagsD v (k + 1))), a5, a6, a7] S := by
  obtain ⟨σ', S', e, rfl, a5, a6, a7, rfl⟩ := for_inv (T := pg) (C := C) (b := fr) (t := .nm 5) (it := .e (.var 2)) (xs := bagsD v k) (σ := [some (.int v), some (.int s), some (.lst false (bagsD v k)), some x, some (.lst false []), w5, w6, w7]) (S := S)
    (body := in19) (P := inv19 v s k (some x) S) (by
      rw [evI_e, ev_var]
      simp only [List.getElem?_cons_zero, List.getElem?_cons_succ, bind_ok, itF]
      unfold bagsD
      rw [fz_bags]) (fun j y σ S' hy hP => step19 hv hk y σ S' hy hP) ⟨rfl, w5, w6, w7, rfl⟩
  have hb : (((bagsL v k).take (bagsD v k).length).flatMap (stepB v)).map bagD = bagsD v (k + 1) := by
    unfold bagsD
    rw [List.length_map, List.take_length, bags_succ]
  rw [hb] at e
  refine ⟨a5, a6, a7, ?_⟩
  have z : 0 ≤ PySem.sizeLine := Nat.zero_le _
  rw [execs_cons, exec_asg, ev_lst, evs_nil, bind_ok, if_pos (by simp), rsof_ok, frz_lst, frzL_nil, asgV_nm, if_pos (by simp)]
  dsimp only [List.set]
  rw [execs_cons, e]
  dsimp only
  rw [execs_cons, exec_asg, ev_var]
  simp only [List.getElem?_cons_zero, List.getElem?_cons_succ, rsof_ok, frz_lst]
  have fz : frzL (bagsD v (k + 1)) = bagsD v (k + 1) := by unfold bagsD; rw [fz_bags]
  rw [fz, asgV_nm, if_pos (by simp)]
  rfl
theorem f19 {v s : Nat} (hv : v ≤ 4) (hs : s ≤ 6) : callF pg (n + 1) bs 19 [.int v, .int s] S = .ok (.lst false (bagsD v s)) S := by
  obtain ⟨σ', S', e, rfl, w3, w4, w5, w6, w7, rfl⟩ := for_inv (T := pg) (C := callF pg n) (b := S.length :: bs) (t := .nm 3) (it := .rng [.var 1]) (xs := rngL 0 s) (σ := [some (.int v), some (.int s), some (.lst false (bagsD v 0)), none, none, none, none, none]) (S := S)
    (body := out19) (P := fun k σ S' => S' = S ∧ ∃ w3 w4 w5 w6 w7, σ = [some (.int v), some (.int s), some (.lst false (bagsD v k)), w3, w4, w5, w6, w7]) (rng_it rfl (by omega)) (fun k x σ S' hk hP => by
      obtain ⟨rfl, w3, w4, w5, w6, w7, rfl⟩ := hP
      have hks : k < s := by have := (List.getElem?_eq_some_iff.mp hk).1; rw [rng_len] at this; exact this
      obtain ⟨a5, a6, a7, h⟩ := turn19 (v := v) (s := s) (k := k) (S := S') (C := callF pg n) (fr := S'.length :: bs) (w4 := w4) (w5 := w5) (w6 := w6) (w7 := w7) hv (by omega) x
      exact ⟨_, _, _, rfl, h, rfl, some x, _, _, _, _, rfl⟩) ⟨rfl, none, none, none, none, none, rfl⟩
  rw [rng_len] at e
  refine call_rt (Df := d19) rfl rfl (by decide) ?_ (Nat.le_refl _)
  have one : 1 ≤ PySem.sizeLine := by rw [PySem.sizeLine_eq]; omega
  have e0 : exec pg (callF pg n) (S'.length :: bs) (.asg (.nm 2) (.lst [(.tup [])])) [some (.int v), some (.int s), none, none, none, none, none, none] S' = .nx [some (.int v), some (.int s), some (.lst false (bagsD v 0)), none, none, none, none, none] S' := by
    simp [one, bagsD, bagsL, bagD]
  show execs pg (callF pg n) (S'.length :: bs) [.asg (.nm 2) (.lst [(.tup [])]), .for_ (.nm 3) (.rng [(.var 1)]) out19, .ret (some (.var 2))] [some (.int v), some (.int s), none, none, none, none, none, none] S' = _
  rw [execs_cons, e0]
  dsimp only
  rw [execs_cons, e]
  dsimp only
  rw [execs_cons, exec_ret, ev_var]
  rfl
end Lw
end

section
set_option Elab.async false
set_option linter.all false
set_option maxRecDepth 100000
set_option maxHeartbeats 1000000
/-! M7: k01: sorted lists; every bag is among all bags. -/
namespace Lw
open Dl
theorem ins_mem {x y : Int} : ∀ {l : List Int}, y ∈ insI x l → y = x ∨ y ∈ l
  | [], h => .inl (List.mem_singleton.mp h)
  | z :: l, h => by
    rw [insI] at h
    split at h
    · rcases List.mem_cons.mp h with h | h
      · exact .inl h
      · exact .inr h
    · rcases List.mem_cons.mp h with h | h
      · exact .inr (by rw [h]; exact List.mem_cons_self)
      · rcases ins_mem h with h | h
        · exact .inl h
        · exact .inr (List.mem_cons_of_mem _ h)
theorem ins_sorted {x : Int} : ∀ {l : List Int}, l.Pairwise (· ≤ ·) → (insI x l).Pairwise (· ≤ ·)
  | [], _ => List.pairwise_singleton _ _
  | z :: l, h => by
    rw [insI]
    obtain ⟨h1, h2⟩ := List.pairwise_cons.mp h
    split
    · rename_i hx
      refine List.pairwise_cons.mpr ⟨fun y hy => ?_, h⟩
      rcases List.mem_cons.mp hy with rfl | hy
      · exact hx
      · have := h1 y hy; omega
    · rename_i hx
      refine List.pairwise_cons.mpr ⟨fun y hy => ?_, ins_sorted h2⟩
      rcases ins_mem hy with rfl | hy
      · omega
      · exact h1 y hy
theorem sort_sorted : ∀ l : List Int, (sortI l).Pairwise (· ≤ ·)
  | [] => .nil
  | x :: l => ins_sorted (sort_sorted l)
theorem ins_len (x : Int) : ∀ l : List Int, (insI x l).length = l.length + 1
  | [] => rfl
  | z :: l => by
    rw [insI]
    split
    · rfl
    · rw [List.length_cons, ins_len x l, List.length_cons]
theorem sort_len : ∀ l : List Int, (sortI l).length = l.length
  | [] => rfl
  | x :: l => by rw [sortI, ins_len, sort_len l, List.length_cons]
theorem sort_mem {y : Int} : ∀ {l : List Int}, y ∈ sortI l → y ∈ l
  | [], h => h
  | x :: l, h => by
    rcases ins_mem h with rfl | h
    · exact List.mem_cons_self
    · exact List.mem_cons_of_mem _ (sort_mem h)
theorem mx_le {b : List Int} {x a : Int} (ha : a ≤ x) (h : ∀ i, i ∈ b → i ≤ x) : b.foldl max a ≤ x := by
  induction b generalizing a with
  | nil => exact ha
  | cons i b ih =>
    rw [List.foldl_cons]
    exact ih (by have := h i List.mem_cons_self; omega) fun j hj => h j (List.mem_cons_of_mem _ hj)
theorem all_bags {v : Nat} : ∀ {s : Nat} {l : List Int}, l.length = s → l.Pairwise (· ≤ ·) → (∀ i, i ∈ l → 0 ≤ i ∧ i < (v : Int)) → l ∈ bagsL v s
  | 0, l, hl, _, _ => by
    have : l = [] := List.length_eq_zero_iff.mp hl
    subst this
    simp [bagsL]
  | s + 1, l, hl, hp, hr => by
    have hne : l ≠ [] := fun z => by rw [z] at hl; cases hl
    have e : l = l.dropLast ++ [l.getLast hne] := (List.dropLast_concat_getLast hne).symm
    have hd : l.dropLast.length = s := by rw [List.length_dropLast, hl]; rfl
    rw [e] at hp hr ⊢
    obtain ⟨p1, p2, p3⟩ := List.pairwise_append.mp hp
    have hm := all_bags hd p1 fun i hi => hr i (List.mem_append_left _ hi)
    have hx := hr (l.getLast hne) (List.mem_append_right _ List.mem_cons_self)
    rw [bagsL]
    refine List.mem_flatMap.mpr ⟨_, hm, List.mem_map.mpr ⟨_, ?_, rfl⟩⟩
    have hmx : mx l.dropLast ≤ l.getLast hne := mx_le hx.1 fun i hi => p3 i hi _ List.mem_cons_self
    unfold rngI
    exact List.mem_map.mpr ⟨(l.getLast hne - mx l.dropLast).toNat, List.mem_range.mpr (by omega), by omega⟩
/-- what a bag is -/
theorem bag_of {v : Nat} {d : D} (h : isBag v d = true) : ∃ l : List Int, d = bagD l ∧ l.length ≤ 6 ∧ l.Pairwise (· ≤ ·) ∧ ∀ i, i ∈ l → 0 ≤ i ∧ i < (v : Int) := by
  cases d with
  | tup xs =>
    simp only [isBag, Bool.and_eq_true, decide_eq_true_eq] at h
    obtain ⟨h1, h2, h3⟩ := h
    obtain ⟨l, rfl, hl⟩ := nums_of h2
    have hn : intsD (l.map .int) = some l := intsD_map l
    unfold srtB at h3
    rw [hn] at h3
    have he : l = sortI l := by simpa using h3
    rw [List.length_map] at h1
    exact ⟨l, rfl, by omega, by rw [he]; exact sort_sorted l, fun i hi => by have := hl i hi; omega⟩
  | _ => simp [isBag] at h
/-! ### places -/
theorem okL_bags (n : Nat) : ∀ l : List (List Int), okL (n + 1) (l.map bagD) = true
  | [] => rfl
  | b :: l => by
    have h1 : okD (n + 1) (bagD b) = true := by show okL n (b.map .int) = true; exact okL_ints n b
    have h2 := okL_bags n l
    rw [List.map_cons]
    show (okD (n + 1) (bagD b) && okL (n + 1) (l.map bagD)) = true
    rw [h1, h2]
    rfl
theorem norm_bags (S : Sto) (l : List (List Int)) : norm S (.tup (l.map bagD)) = some (.tup (l.map bagD)) := by
  have h : okD 60 (.tup (l.map bagD)) = true := by show okL 59 (l.map bagD) = true; exact okL_bags 58 l
  unfold norm
  rw [if_pos h]
theorem find_some {p : D → Bool} : ∀ {xs : List D}, (∃ x, x ∈ xs ∧ p x = true) → ∃ j, xs.findIdx? p = some j ∧ j < xs.length
  | [], h => by obtain ⟨x, hx, _⟩ := h; exact absurd hx List.not_mem_nil
  | x :: xs, h => by
    rw [List.findIdx?_cons]
    cases hp : p x with
    | true => exact ⟨0, rfl, Nat.zero_lt_succ _⟩
    | false =>
      obtain ⟨y, hy, hpy⟩ := h
      rcases List.mem_cons.mp hy with rfl | hy
      · rw [hp] at hpy; cases hpy
      · obtain ⟨j, hj, hl⟩ := find_some ⟨y, hy, hpy⟩
        exact ⟨j + 1, by rw [if_neg Bool.false_ne_true, hj]; rfl, by rw [List.length_cons]; omega⟩
def idxB (v : Nat) (l : List Int) : Nat := (((bagsD v l.length).findIdx? fun z => eqD z (bagD l)).getD 0)
theorem index_bags {o : Bool} {v : Nat} {l : List Int} {S : Sto} (hp : l.Pairwise (· ≤ ·)) (hr : ∀ i, i ∈ l → 0 ≤ i ∧ i < (v : Int)) : methF .index (.lst o (bagsD v l.length)) [bagD l] S = .ok (.int (idxB v l)) S := by
  have h1 : norm S (bagD l) = some (bagD l) := norm_tup S l
  have h2 : norm S (.tup (bagsD v l.length)) = some (.tup (bagsD v l.length)) := norm_bags S _
  have h3 : ∃ j, (bagsD v l.length).findIdx? (fun z => eqD z (bagD l)) = some j ∧ j < (bagsD v l.length).length := find_some ⟨bagD l, List.mem_map.mpr ⟨l, all_bags rfl hp hr, rfl⟩, by show eqL _ _ = true; rw [eqL_ints]; simp⟩
  obtain ⟨j, hj, _⟩ := h3
  have e : methF .index (.lst o (bagsD v l.length)) [bagD l] S = (match norm S (bagD l), some (bagsD v l.length) with
    | some y, some ys => (match norm S (.tup ys) with
      | some (.tup zs) => (match zs.findIdx? fun z => eqD z y with | some j => R.ok (.int j) S | none => .er)
      | _ => .er)
    | _, _ => .er) := rfl
  rw [e, h1]
  dsimp only
  rw [h2]
  dsimp only
  rw [hj]
  dsimp only
  unfold idxB
  rw [hj]
  rfl
end Lw
end

section
set_option Elab.async false
set_option linter.all false
set_option maxRecDepth 100000
set_option maxHeartbeats 1000000
/-! M8: k01: the program's functions of bags. -/
namespace Lw
open Dl
variable {n : Nat} {bs : List Nat} {S : Sto}
theorem sorted_ints (o : Bool) (l : List Int) (S : Sto) : primF .sorted [.lst o (l.map .int)] S = .ok (.lst true ((sortI l).map .int)) S := by
  have e : primF .sorted [.lst o (l.map .int)] S = (match (some (l.map D.int)).bind intsD with | some l => R.ok (.lst true ((sortI l).map .int)) S | none => .er) := rfl
  rw [e, Option.bind_some, intsD_map]
theorem sorted_tup (l : List Int) (S : Sto) : primF .sorted [.tup (l.map .int)] S = .ok (.lst true ((sortI l).map .int)) S := by
  have e : primF .sorted [.tup (l.map .int)] S = (match (some (l.map D.int)).bind intsD with | some l => R.ok (.lst true ((sortI l).map .int)) S | none => .er) := rfl
  rw [e, Option.bind_some, intsD_map]
@[simp] theorem tuple_lst (o : Bool) (xs : List D) (S : Sto) : primF .tuple [.lst o xs] S = .ok (.tup xs) S := id rfl
@[simp] theorem list_tup (xs : List D) (S : Sto) : primF .list [.tup xs] S = .ok (.lst true xs) S := id rfl
@[simp] theorem kids_tup (xs : List D) (S : Sto) : kids S (.tup xs) = some xs := id rfl
@[simp] theorem kids_lst (o : Bool) (xs : List D) (S : Sto) : kids S (.lst o xs) = some xs := id rfl
def plusD (l : List Int) (i : Int) : D := bagD (sortI (l ++ [i]))
theorem ints_snoc (l : List Int) (i : Int) : l.map D.int ++ [.int i] = (l ++ [i]).map .int := by rw [List.map_append]; rfl
theorem f8 {l : List Int} {i : Int} (hl : l.length ≤ 100) : callF pg (n + 1) bs 8 [bagD l, .int i] S = .ok (plusD l i) S := by
  refine call_rt (Df := d8) rfl rfl (by decide) ?_ (Nat.le_refl _)
  have hz : l.length + 1 ≤ PySem.sizeLine := by rw [PySem.sizeLine_eq]; omega
  have e : primF .sorted [.tup (l.map .int ++ [.int i])] S = .ok (.lst true ((sortI (l ++ [i])).map .int)) S := by rw [ints_snoc, sorted_tup]
  simp [d8, bagD, hz, e, plusD]
def atI (l : List Int) (i : Int) : Nat := (((l.map D.int).findIdx? fun z => eqD z (.int i)).getD 0)
def lessD (l : List Int) (a : Int) : D := .tup (cutD (l.map .int) none (some a) ++ cutD (l.map .int) (some (a + 1)) none)
theorem norm_int (i : Int) (S : Sto) : norm S (.int i) = some (.int i) := rfl
theorem index_bag {l : List Int} {i : Int} {S : Sto} (h : i ∈ l) : methF .index (bagD l) [.int i] S = .ok (.int (atI l i)) S := by
  have h2 : norm S (.tup (l.map .int)) = some (.tup (l.map .int)) := norm_tup S l
  obtain ⟨j, hj, _⟩ := find_some (xs := l.map D.int) (p := fun z => eqD z (.int i)) ⟨.int i, List.mem_map.mpr ⟨i, h, rfl⟩, by show (i == i) = true; simp⟩
  have e : methF .index (bagD l) [.int i] S = (match norm S (.int i), some (l.map D.int) with
    | some y, some ys => (match norm S (.tup ys) with
      | some (.tup zs) => (match zs.findIdx? fun z => eqD z y with | some j => R.ok (.int j) S | none => .er)
      | _ => .er)
    | _, _ => .er) := rfl
  rw [e, norm_int]
  dsimp only
  rw [h2]
  dsimp only
  rw [hj]
  dsimp only
  unfold atI
  rw [hj]
  rfl
theorem cut_len (xs : List D) (lo hi : Option Int) : (cutD xs lo hi).length ≤ xs.length := by
  unfold cutD
  rw [List.length_take, List.length_drop]
  omega
@[simp] theorem slc_bag (l : List Int) (lo hi : Option Int) (S : Sto) : slcF (bagD l) lo hi S = .ok (.tup (cutD (l.map .int) lo hi)) S := id rfl
theorem cut_add (l : List Int) (a : Int) (S : Sto) (hl : l.length ≤ 100) : binF .Add (.tup (cutD (l.map .int) none (some a))) (.tup (cutD (l.map .int) (some (a + 1)) none)) S = .ok (lessD l a) S := by
  have h1 := cut_len (l.map .int) none (some a)
  have h2 := cut_len (l.map .int) (some (a + 1)) none
  rw [List.length_map] at h1 h2
  rw [add_tup _ _ _ (by rw [PySem.sizeLine_eq]; omega)]
  rfl
@[simp] theorem kids_bag (l : List Int) (S : Sto) : kids S (bagD l) = some (l.map .int) := id rfl
theorem f9 {l : List Int} {i : Int} (hl : l.length ≤ 100) (h : i ∈ l) : callF pg (n + 1) bs 9 [bagD l, .int i] S = .ok (lessD l (atI l i)) S := by
  refine call_rt (Df := d9) rfl rfl (by decide) ?_ (Nat.le_refl _)
  simp [d9, index_bag h, cut_add _ _ _ hl]
theorem f10 {d e : D} (h : PlD d) (h2 : PlD e) : callF pg (n + 4) bs 10 [d, e] S = if isNumD d 1 4 = true then (if isNumD e 0 6 = true then callF pg (n + 3) (S.length :: bs) 7 [d, e] S else .ex 2 [e] S) else .ex 1 [d] S := by
  split
  · rename_i hd
    split
    · rename_i he
      obtain ⟨v, rfl, hv⟩ : ∃ v : Nat, d = .int v ∧ v ≤ 4 := by
        cases d with
        | int i => simp [isNumD] at hd; exact ⟨i.toNat, by rw [Int.toNat_of_nonneg (by omega)], by omega⟩
        | _ => simp [isNumD] at hd
      obtain ⟨s, rfl, hs⟩ : ∃ v : Nat, e = .int v ∧ v ≤ 6 := by
        cases e with
        | int i => simp [isNumD] at he; exact ⟨i.toNat, by rw [Int.toNat_of_nonneg (by omega)], by omega⟩
        | _ => simp [isNumD] at he
      rw [f7 hv hs]
      refine call_rt (Df := d10) rfl rfl (by decide) ?_ (Nat.le_refl _)
      simp [d10, f3 h, hd, f4 h2, he, f7 hv hs]
    · rename_i he
      refine call_ex (e2 := [some d, some e]) (Df := d10) rfl rfl (by decide) ?_ (Nat.le_refl _)
      simp [d10, h.2, h2.2, f3 h, hd, f4 h2, he]
  · rename_i hd
    refine call_ex (e2 := [some d, some e]) (Df := d10) rfl rfl (by decide) ?_ (Nat.le_refl _)
    simp [d10, h.2, f3 h, hd]
theorem comb_ok : ∀ v, v ≤ 4 → 1 ≤ v → ∀ s, s ≤ 6 → chooseN (v + s - 1) s = (bagsL v s).length := by decide +kernel
theorem f11 {d e : D} (h : PlD d) (h2 : PlD e) : callF pg (n + 4) bs 11 [d, e] S = if isNumD d 1 4 = true then (if isNumD e 0 6 = true then .ok (.int (match d, e with | .int v, .int s => ((bagsL v.toNat s.toNat).length : Int) | _, _ => 0)) S else .ex 2 [e] S) else .ex 1 [d] S := by
  split
  · rename_i hd
    split
    · rename_i he
      obtain ⟨v, rfl, hv⟩ : ∃ v : Nat, d = .int v ∧ 1 ≤ v ∧ v ≤ 4 := by
        cases d with
        | int i => simp [isNumD] at hd; exact ⟨i.toNat, by rw [Int.toNat_of_nonneg (by omega)], by omega, by omega⟩
        | _ => simp [isNumD] at hd
      obtain ⟨s, rfl, hs⟩ : ∃ v : Nat, e = .int v ∧ v ≤ 6 := by
        cases e with
        | int i => simp [isNumD] at he; exact ⟨i.toNat, by rw [Int.toNat_of_nonneg (by omega)], by omega⟩
        | _ => simp [isNumD] at he
      refine call_rt (Df := d11) rfl rfl (by decide) ?_ (Nat.le_refl _)
      have hc : primF .comb [.int ((v : Int) + s - 1), .int s] S = .ok (.int ((bagsL v s).length : Int)) S := by
        have e : primF .comb [.int ((v : Int) + s - 1), .int s] S = if 0 ≤ (v : Int) + s - 1 ∧ (v : Int) + s - 1 ≤ 20 ∧ 0 ≤ (s : Int) ∧ (s : Int) ≤ 20 then .ok (.int (chooseN ((v : Int) + s - 1).toNat (s : Int).toNat)) S else .er := rfl
        rw [e, if_pos ⟨by omega, by omega, by omega, by omega⟩]
        rw [show ((v : Int) + s - 1).toNat = v + s - 1 by omega, Int.toNat_natCast, comb_ok v hv.2 hv.1 s hs]
      simp [d11, f3 h, hd, f4 h2, he, hc]
    · rename_i he
      refine call_ex (e2 := [some d, some e]) (Df := d11) rfl rfl (by decide) ?_ (Nat.le_refl _)
      simp [d11, h.2, h2.2, f3 h, hd, f4 h2, he]
  · rename_i hd
    refine call_ex (e2 := [some d, some e]) (Df := d11) rfl rfl (by decide) ?_ (Nat.le_refl _)
    simp [d11, h.2, f3 h, hd]
end Lw
end

section
set_option Elab.async false
set_option linter.all false
set_option maxRecDepth 100000
set_option maxHeartbeats 1000000
/-! M9: k01: the program's functions of bags. -/
namespace Lw
open Dl
variable {n : Nat} {bs : List Nat} {S : Sto}
theorem pl_int (i : Int) : PlD (.int i) := ⟨⟨_, rfl⟩, rfl⟩
theorem frz_bag (l : List Int) : frz (bagD l) = bagD l := by unfold bagD; rw [frz_tup, frzL_ints]
theorem pl_bag (l : List Int) : PlT (bagD l) := ⟨⟨⟨_, rfl⟩, frz_bag l⟩, fun xs h x hx => by cases h; obtain ⟨i, _, rfl⟩ := List.mem_map.mp hx; exact pl_int i⟩
theorem len_bag (l : List Int) (S : Sto) : primF .len [bagD l] S = .ok (.int l.length) S := by
  show R.ok (D.int ((l.map D.int).length : Int)) S = _
  rw [List.length_map]
theorem f12a {d e : D} (h : PlD d) (hd : isNumD d 1 4 = false) : callF pg (n + 5) bs 12 [d, e] S = .ex 1 [d] S := by
  refine call_ex (e2 := [some d, some e]) (Df := d12) rfl rfl (by decide) ?_ (Nat.le_refl _)
  simp [d12, h.2, f3 h, hd]
theorem f12b {v : Int} {e : D} (h2 : PlT e) (hv : 1 ≤ v ∧ v ≤ 4) (he : isBag v e = false) : callF pg (n + 5) bs 12 [.int v, e] S = .ex 3 [e] S := by
  refine call_ex (e2 := [some (.int v), some e]) (Df := d12) rfl rfl (by decide) ?_ (Nat.le_refl _)
  have hd : isNumD (.int v) 1 4 = true := by simp [isNumD]; omega
  simp [d12, h2.1.2, f3 (pl_int v), hd, f6 h2, he]
theorem f12c {v : Nat} {l : List Int} (hv : 1 ≤ v ∧ v ≤ 4) (he : isBag v (bagD l) = true) : callF pg (n + 5) bs 12 [.int v, bagD l] S = .ok (.int (idxB v l)) S := by
  refine call_rt (Df := d12) rfl rfl (by decide) ?_ (Nat.le_refl _)
  have hd : isNumD (.int v) 1 4 = true := by simp [isNumD]; omega
  obtain ⟨l', e, hl, hp, hr⟩ := bag_of he
  have : l = l' := by
    have h1 : l.map D.int = l'.map D.int := D.tup.inj e
    have h2 := congrArg intsD h1
    rw [intsD_map, intsD_map] at h2
    exact Option.some.inj h2
  subst this
  simp [d12, frz_bag, f3 (pl_int v), hd, f6 (pl_bag l), he, len_bag, f7 hv.2 (show l.length ≤ 6 from hl), index_bags hp hr]
theorem f13a {d e : D} (h : PlT d) (hd : isBag 4 d = false) : callF pg (n + 5) bs 13 [d, e] S = .ex 3 [d] S := by
  refine call_ex (e2 := [some d, some e]) (Df := d13) rfl rfl (by decide) ?_ (Nat.le_refl _)
  simp [d13, h.1.2, f6 h, hd]
theorem f13b {d e : D} (h : PlT d) (h2 : PlD e) (hd : isBag 4 d = true) (he : isNumD e 0 3 = false) : callF pg (n + 5) bs 13 [d, e] S = .ex 4 [e] S := by
  refine call_ex (e2 := [some d, some e]) (Df := d13) rfl rfl (by decide) ?_ (Nat.le_refl _)
  simp [d13, h.1.2, h2.2, f6 h, hd, f2 h2, he]
theorem f13c {d e : D} (h : PlT d) (h2 : PlD e) (hd : isBag 4 d = true) (he : isNumD e 0 3 = true) : callF pg (n + 5) bs 13 [d, e] S = .ok .non S := by
  refine call_nx (e2 := [some d, some e]) (Df := d13) rfl rfl (by decide) ?_ (Nat.le_refl _)
  simp [d13, h.1.2, h2.2, f6 h, hd, f2 h2, he]
theorem f14a {d e : D} (h : PlT d) (h2 : PlD e) (hd : isBag 4 d = false) : callF pg (n + 6) bs 14 [d, e] S = .ex 3 [d] S := by
  refine call_ex (e2 := [some d, some e]) (Df := d14) rfl rfl (by decide) ?_ (Nat.le_refl _)
  simp [d14, h.1.2, h2.2, f13a h hd]
theorem f14b {d e : D} (h : PlT d) (h2 : PlD e) (hd : isBag 4 d = true) (he : isNumD e 0 3 = false) : callF pg (n + 6) bs 14 [d, e] S = .ex 4 [e] S := by
  refine call_ex (e2 := [some d, some e]) (Df := d14) rfl rfl (by decide) ?_ (Nat.le_refl _)
  simp [d14, h.1.2, h2.2, f13b h h2 hd he]
theorem f14c {l : List Int} {i : Int} (hl : l.length ≤ 100) (hd : isBag 4 (bagD l) = true) (he : isNumD (.int i) 0 3 = true) : callF pg (n + 6) bs 14 [bagD l, .int i] S = .ok (plusD l i) S := by
  refine call_rt (Df := d14) rfl rfl (by decide) ?_ (Nat.le_refl _)
  simp [d14, frz_bag, f13c (pl_bag l) (pl_int i) hd he, f8 hl]
theorem any_ints (l : List Int) (i : Int) : ((l.map D.int).any fun z => eqD z (.int i)) = l.contains i := by
  induction l with
  | nil => rfl
  | cons j l ih =>
    rw [List.map_cons, List.any_cons, ih, List.contains_cons]
    show ((j == i) || l.contains i) = ((i == j) || l.contains i)
    rw [show (j == i) = (i == j) from Bool.eq_iff_iff.mpr ⟨fun h => beq_iff_eq.mpr (beq_iff_eq.mp h).symm, fun h => beq_iff_eq.mpr (beq_iff_eq.mp h).symm⟩]
theorem cmp_notin (l : List Int) (i : Int) (S : Sto) : cmpF .NotIn (.int i) (bagD l) S = some (!l.contains i) := by
  have h2 : norm S (.tup (l.map .int)) = some (.tup (l.map .int)) := norm_tup S l
  have e : cmpF .NotIn (.int i) (bagD l) S = (match norm S (.int i), some (l.map D.int) with
    | some x, some ys => (match norm S (.tup ys) with | some (.tup zs) => some (!zs.any fun z => eqD z x) | _ => none)
    | _, _ => none) := rfl
  rw [e, norm_int]
  dsimp only
  rw [h2]
  dsimp only
  rw [any_ints]
theorem f15a {d e : D} (h : PlT d) (h2 : PlD e) (hd : isBag 4 d = false) : callF pg (n + 6) bs 15 [d, e] S = .ex 3 [d] S := by
  refine call_ex (e2 := [some d, some e]) (Df := d15) rfl rfl (by decide) ?_ (Nat.le_refl _)
  simp [d15, h.1.2, h2.2, f13a h hd]
theorem f15b {d e : D} (h : PlT d) (h2 : PlD e) (hd : isBag 4 d = true) (he : isNumD e 0 3 = false) : callF pg (n + 6) bs 15 [d, e] S = .ex 4 [e] S := by
  refine call_ex (e2 := [some d, some e]) (Df := d15) rfl rfl (by decide) ?_ (Nat.le_refl _)
  simp [d15, h.1.2, h2.2, f13b h h2 hd he]
theorem f15c {l : List Int} {i : Int} (hd : isBag 4 (bagD l) = true) (he : isNumD (.int i) 0 3 = true) (hn : i ∉ l) : callF pg (n + 6) bs 15 [bagD l, .int i] S = .ex 5 [.int i] S := by
  refine call_ex (e2 := [some (bagD l), some (.int i)]) (Df := d15) rfl rfl (by decide) ?_ (Nat.le_refl _)
  have hc : l.contains i = false := by simpa using hn
  simp [d15, frz_bag, f13c (pl_bag l) (pl_int i) hd he, cmp_notin, hc, hn]
theorem f15d {l : List Int} {i : Int} (hl : l.length ≤ 100) (hd : isBag 4 (bagD l) = true) (he : isNumD (.int i) 0 3 = true) (hn : i ∈ l) : callF pg (n + 6) bs 15 [bagD l, .int i] S = .ok (lessD l (atI l i)) S := by
  refine call_rt (Df := d15) rfl rfl (by decide) ?_ (Nat.le_refl _)
  have hc : l.contains i = true := by simpa using hn
  simp [d15, frz_bag, f13c (pl_bag l) (pl_int i) hd he, cmp_notin, hc, hn, f9 hl hn]
end Lw
end

section
set_option Elab.async false
set_option linter.all false
set_option maxRecDepth 100000
set_option maxHeartbeats 1000000
/-! M10: k01: what is told. -/
namespace Lw
open Dl
variable {n : Nat} {bs : List Nat} {S : Sto}
abbrev sTold : PySem.Str := PySem.Str.ofString "told"
def kindS : Option Nat → PySem.Str
  | none => sTold
  | some 1 => PySem.Str.ofString "values"
  | some 2 => PySem.Str.ofString "size"
  | some 3 => PySem.Str.ofString "bag"
  | some 4 => PySem.Str.ofString "value"
  | _ => PySem.Str.ofString "absent"
/-- a question, its answer: the exception's class or none; the value as the law has it, as the program has it -/
inductive Ans : Int → D → D → Option Nat → D → D → Prop
  | values {w : Int} {d e : D} : 0 ≤ w → w < 3 → PlT d → PlT e → isNumD d 1 4 = false → Ans w d e (some 1) d d
  | size {w : Int} {v : Nat} {e : D} : 0 ≤ w → w < 2 → 1 ≤ v → v ≤ 4 → PlT e → isNumD e 0 6 = false → Ans w (.int v) e (some 2) e e
  | bags {v s : Nat} : 1 ≤ v → v ≤ 4 → s ≤ 6 → Ans 0 (.int v) (.int s) none (.lst false (bagsD v s)) (.lst true (bagsD v s))
  | count {v s : Nat} : 1 ≤ v → v ≤ 4 → s ≤ 6 → Ans 1 (.int v) (.int s) none (.int ((bagsL v s).length : Int)) (.int ((bagsL v s).length : Int))
  | bag2 {v : Nat} {e : D} : 1 ≤ v → v ≤ 4 → PlT e → isBag v e = false → Ans 2 (.int v) e (some 3) e e
  | idx {v : Nat} {l : List Int} : 1 ≤ v → v ≤ 4 → l.length ≤ 6 → isBag v (bagD l) = true → Ans 2 (.int v) (bagD l) none (.int (idxB v l)) (.int (idxB v l))
  | bag3 {w : Int} {d e : D} : 3 ≤ w → w ≤ 4 → PlT d → PlT e → isBag 4 d = false → Ans w d e (some 3) d d
  | value {w : Int} {l : List Int} {e : D} : 3 ≤ w → w ≤ 4 → l.length ≤ 6 → PlT e → isBag 4 (bagD l) = true → isNumD e 0 3 = false → Ans w (bagD l) e (some 4) e e
  | plus {l : List Int} {i : Int} : l.length ≤ 6 → isBag 4 (bagD l) = true → isNumD (.int i) 0 3 = true → Ans 3 (bagD l) (.int i) none (plusD l i) (plusD l i)
  | absent {l : List Int} {i : Int} : l.length ≤ 6 → isBag 4 (bagD l) = true → isNumD (.int i) 0 3 = true → i ∉ l → Ans 4 (bagD l) (.int i) (some 5) (.int i) (.int i)
  | less {l : List Int} {i : Int} : l.length ≤ 6 → isBag 4 (bagD l) = true → isNumD (.int i) 0 3 = true → i ∈ l → Ans 4 (bagD l) (.int i) none (lessD l (atI l i)) (lessD l (atI l i))
theorem num_nat {d : D} {lo hi : Int} (h0 : 0 ≤ lo) (h : isNumD d lo hi = true) : ∃ v : Nat, d = .int v ∧ lo ≤ (v : Int) ∧ (v : Int) ≤ hi := by
  cases d with
  | int i => simp [isNumD] at h; exact ⟨i.toNat, by rw [Int.toNat_of_nonneg (by omega)], by omega, by omega⟩
  | _ => simp [isNumD] at h
theorem ans_ex {w : Int} {d e : D} (h0 : 0 ≤ w) (h4 : w ≤ 4) (hd : PlT d) (he : PlT e) : ∃ c x y, Ans w d e c x y := by
  by_cases h3 : w < 3
  · cases hn : isNumD d 1 4 with
    | false => exact ⟨_, _, _, .values h0 h3 hd he hn⟩
    | true =>
      obtain ⟨v, rfl, v1, v2⟩ := num_nat (by omega) hn
      by_cases h2 : w < 2
      · cases hm : isNumD e 0 6 with
        | false => exact ⟨_, _, _, .size h0 h2 (by omega) (by omega) he hm⟩
        | true =>
          obtain ⟨s, rfl, s1, s2⟩ := num_nat (by omega) hm
          rcases (show w = 0 ∨ w = 1 by omega) with rfl | rfl
          · exact ⟨_, _, _, .bags (by omega) (by omega) (by omega)⟩
          · exact ⟨_, _, _, .count (by omega) (by omega) (by omega)⟩
      · obtain rfl : w = 2 := by omega
        cases hb : isBag v e with
        | false => exact ⟨_, _, _, .bag2 (by omega) (by omega) he hb⟩
        | true =>
          obtain ⟨l, rfl, hl, _, _⟩ := bag_of hb
          exact ⟨_, _, _, .idx (by omega) (by omega) hl hb⟩
  · cases hb : isBag 4 d with
    | false => exact ⟨_, _, _, .bag3 (by omega) h4 hd he hb⟩
    | true =>
      obtain ⟨l, rfl, hl, _, _⟩ := bag_of (v := 4) hb
      cases hn : isNumD e 0 3 with
      | false => exact ⟨_, _, _, .value (by omega) h4 hl he hb hn⟩
      | true =>
        obtain ⟨i, rfl, _, _⟩ := num_nat (by omega) hn
        rcases (show w = 3 ∨ w = 4 by omega) with rfl | rfl
        · exact ⟨_, _, _, .plus hl hb hn⟩
        · by_cases hi : (i : Int) ∈ l
          · exact ⟨_, _, _, .less hl hb hn hi⟩
          · exact ⟨_, _, _, .absent hl hb hn hi⟩
def outR (c : Option Nat) (y : D) (S : Sto) : R D := match c with
  | none => .ok y S
  | some c => .ex c [y] S
theorem rs_out {c : Option Nat} {y : D} {S : Sto} {T : Pg} {n : Nat} {bs : List Nat} {k : Nat} {as : List D} {Df : Def} {σ : Env} (hk : T.ds[k]? = some Df) (h1 : as.length = Df.np) (h2 : Df.np ≤ Df.nn)
    (he : execs T (callF T n) (S.length :: bs) Df.body (as.map some ++ List.replicate (Df.nn - Df.np) none) S = RS.of (outR c y S) σ fun d S => .rt d S) : callF T (n + 1) bs k as S = outR c y S := by
  cases c with
  | none => exact call_rt hk h1 h2 he (Nat.le_refl _)
  | some c => exact call_ex hk h1 h2 he (Nat.le_refl _)
theorem isn {v : Nat} (h1 : 1 ≤ v) (h2 : v ≤ 4) : isNumD (.int v) 1 4 = true := by simp [isNumD]; omega
theorem isn6 {s : Nat} (h2 : s ≤ 6) : isNumD (.int s) 0 6 = true := by simp [isNumD]; omega
/-- the five doors, by their numbers -/
theorem door {w : Int} {d e : D} {c : Option Nat} {x y : D} (h : Ans w d e c x y) (bs : List Nat) (S : Sto) : (w = 0 ∧ callF pg (n + 6) bs 10 [d, e] S = outR c y S) ∨ (w = 1 ∧ callF pg (n + 6) bs 11 [d, e] S = outR c y S) ∨ (w = 2 ∧ callF pg (n + 6) bs 12 [d, e] S = outR c y S) ∨
    (w = 3 ∧ callF pg (n + 6) bs 14 [d, e] S = outR c y S) ∨ (w = 4 ∧ callF pg (n + 6) bs 15 [d, e] S = outR c y S) := by
  cases h with
  | values h0 h3 hd he hn =>
    rcases (show w = 0 ∨ w = 1 ∨ w = 2 by omega) with rfl | rfl | rfl
    · exact .inl ⟨rfl, by rw [f10 (n := n + 2) hd.1 he.1, hn]; rfl⟩
    · exact .inr (.inl ⟨rfl, by rw [f11 (n := n + 2) hd.1 he.1, hn]; rfl⟩)
    · exact .inr (.inr (.inl ⟨rfl, f12a (n := n + 1) hd.1 hn⟩))
  | size h0 h2 v1 v2 he hn =>
    rcases (show w = 0 ∨ w = 1 by omega) with rfl | rfl
    · exact .inl ⟨rfl, by rw [f10 (n := n + 2) (pl_int _) he.1, isn v1 v2, hn]; rfl⟩
    · exact .inr (.inl ⟨rfl, by rw [f11 (n := n + 2) (pl_int _) he.1, isn v1 v2, hn]; rfl⟩)
  | bags v1 v2 s2 => exact .inl ⟨rfl, by rw [f10 (n := n + 2) (pl_int _) (pl_int _), isn v1 v2, isn6 s2, if_pos rfl, if_pos rfl, f7 v2 s2]; rfl⟩
  | count v1 v2 s2 => exact .inr (.inl ⟨rfl, by rw [f11 (n := n + 2) (pl_int _) (pl_int _), isn v1 v2, isn6 s2, if_pos rfl, if_pos rfl]; dsimp only; rw [Int.toNat_natCast, Int.toNat_natCast]; rfl⟩)
  | bag2 v1 v2 he hb => exact .inr (.inr (.inl ⟨rfl, f12b (n := n + 1) he (by omega) hb⟩))
  | idx v1 v2 hl hb => exact .inr (.inr (.inl ⟨rfl, f12c (n := n + 1) ⟨v1, v2⟩ hb⟩))
  | bag3 h3 h4 hd he hb =>
    rcases (show w = 3 ∨ w = 4 by omega) with rfl | rfl
    · exact .inr (.inr (.inr (.inl ⟨rfl, f14a hd he.1 hb⟩)))
    · exact .inr (.inr (.inr (.inr ⟨rfl, f15a hd he.1 hb⟩)))
  | value h3 h4 hl he hb hn =>
    rcases (show w = 3 ∨ w = 4 by omega) with rfl | rfl
    · exact .inr (.inr (.inr (.inl ⟨rfl, f14b (pl_bag _) he.1 hb hn⟩)))
    · exact .inr (.inr (.inr (.inr ⟨rfl, f15b (pl_bag _) he.1 hb hn⟩)))
  | plus hl hb hn => exact .inr (.inr (.inr (.inl ⟨rfl, f14c (by omega) hb hn⟩)))
  | absent hl hb hn hi => exact .inr (.inr (.inr (.inr ⟨rfl, f15c hb hn hi⟩)))
  | less hl hb hn hi => exact .inr (.inr (.inr (.inr ⟨rfl, f15d (by omega) hb hn hi⟩)))
theorem ans_frz {w : Int} {d e : D} {c : Option Nat} {x y : D} (h : Ans w d e c x y) : frz d = d ∧ frz e = e := by
  cases h with
  | values h0 h3 hd he hn => exact ⟨hd.1.2, he.1.2⟩
  | size h0 h2 v1 v2 he hn => exact ⟨rfl, he.1.2⟩
  | bags v1 v2 s2 => exact ⟨rfl, rfl⟩
  | count v1 v2 s2 => exact ⟨rfl, rfl⟩
  | bag2 v1 v2 he hb => exact ⟨rfl, he.1.2⟩
  | idx v1 v2 hl hb => exact ⟨rfl, frz_bag _⟩
  | bag3 h3 h4 hd he hb => exact ⟨hd.1.2, he.1.2⟩
  | value h3 h4 hl he hb hn => exact ⟨frz_bag _, he.1.2⟩
  | plus hl hb hn => exact ⟨frz_bag _, rfl⟩
  | absent hl hb hn hi => exact ⟨frz_bag _, rfl⟩
  | less hl hb hn hi => exact ⟨frz_bag _, rfl⟩
theorem f27 {w : Int} {d e : D} {c : Option Nat} {x y : D} (h : Ans w d e c x y) : callF pg (n + 7) bs 27 [.int w, d, e] S = outR c y S := by
  obtain ⟨z1, z2⟩ := ans_frz h
  refine rs_out (Df := d27) (σ := [some (.int w), some d, some e]) rfl rfl (by decide) ?_
  rcases door h (n := n) (S.length :: bs) S with ⟨rfl, q⟩ | ⟨rfl, q⟩ | ⟨rfl, q⟩ | ⟨rfl, q⟩ | ⟨rfl, q⟩ <;> cases c <;> simp [d27, z1, z2, q, outR]
theorem f28 {w : Int} {d e : D} {c : Option Nat} {x y : D} (h : Ans w d e c x y) : callF pg (n + 7) bs 28 [.int w, d, e] S = outR c y S := by
  obtain ⟨z1, z2⟩ := ans_frz h
  have pk : pickA 2 [1, 0] [e, d] = [d, e] := rfl
  refine rs_out (Df := d28) (σ := [some (.int w), some d, some e]) rfl rfl (by decide) ?_
  rcases door h (n := n) (S.length :: bs) S with ⟨rfl, q⟩ | ⟨rfl, q⟩ | ⟨rfl, q⟩ | ⟨rfl, q⟩ | ⟨rfl, q⟩ <;> cases c <;> simp [d28, z1, z2, pk, q, outR]
theorem f29 {w : Int} {d e : D} {c : Option Nat} {x y : D} {nm : Bool} (h : Ans w d e c x y) : callF pg (n + 8) bs 29 [.int w, d, e, .bl nm] S = .ok (.lst true [.str (kindS c), y]) S := by
  obtain ⟨z1, z2⟩ := ans_frz h
  have h27 := f27 (n := n) (bs := S.length :: bs) (S := S) h
  have h28 := f28 (n := n) (bs := S.length :: bs) (S := S) h
  have two : 2 ≤ PySem.sizeLine := by rw [PySem.sizeLine_eq]; omega
  refine call_rt (Df := d29) rfl rfl (by decide) ?_ (Nat.le_refl _)
  have x1 : xatF pg (some (some (.exc 1 [y]))) 0 S = .ok y S := rfl
  have x2 : xatF pg (some (some (.exc 2 [y]))) 0 S = .ok y S := rfl
  have x3 : xatF pg (some (some (.exc 3 [y]))) 0 S = .ok y S := rfl
  have x4 : xatF pg (some (some (.exc 4 [y]))) 0 S = .ok y S := rfl
  have x5 : xatF pg (some (some (.exc 5 [y]))) 1 S = .ok y S := rfl
  have hc : c = none ∨ c = some 1 ∨ c = some 2 ∨ c = some 3 ∨ c = some 4 ∨ c = some 5 := by cases h <;> simp
  rcases hc with rfl | rfl | rfl | rfl | rfl | rfl <;> cases nm <;> simp [d29, z1, z2, h27, h28, outR, two, kindS, subC, unName, x1, x2, x3, x4, x5]
end Lw
end

section
set_option Elab.async false
set_option linter.all false
set_option maxRecDepth 100000
set_option maxHeartbeats 1000000
/-! M11: k01: what is due. -/
namespace Lw
open Dl
variable {n : Nat} {bs : List Nat} {S : Sto}
theorem fz_bagsD (v s : Nat) : frzL (bagsD v s) = bagsD v s := by unfold bagsD; rw [fz_bags]
theorem bagsD_len (v s : Nat) : (bagsD v s).length = (bagsL v s).length := by unfold bagsD; rw [List.length_map]
@[simp] theorem list_bag (l : List Int) (S : Sto) : primF .list [bagD l] S = .ok (.lst true (l.map .int)) S := id rfl
theorem f26 {w : Int} {d e : D} {c : Option Nat} {x y : D} (h : Ans w d e c x y) : callF pg (n + 3) bs 26 [.int w, d, e] S = .ok (.lst true [.str (kindS c), x]) S := by
  obtain ⟨z1, z2⟩ := ans_frz h
  have two : 2 ≤ PySem.sizeLine := by rw [PySem.sizeLine_eq]; omega
  have one : 1 ≤ PySem.sizeLine := by rw [PySem.sizeLine_eq]; omega
  refine call_rt (Df := d26) rfl rfl (by decide) ?_ (Nat.le_refl _)
  cases h with
  | values h0 h3 hd he hn => simp [d26, h3, z1, f20 hd.1, hn, two, kindS]
  | @size w v e h0 h2 v1 v2 he hn =>
    have h3 : w < 3 := by omega
    simp [d26, h3, h2, z2, f20 (pl_int _), isn v1 v2, f20 he.1, hn, two, kindS]
  | @bags v s v1 v2 s2 => simp [d26, f20 (pl_int _), isn v1 v2, isn6 s2, f19 v2 s2, fz_bagsD, two, kindS]
  | @count v s v1 v2 s2 => simp [d26, f20 (pl_int _), isn v1 v2, isn6 s2, f19 v2 s2, fz_bagsD, bagsD_len, two, kindS]
  | @bag2 v e v1 v2 he hb => simp [d26, z2, f20 (pl_int _), isn v1 v2, f21 he, hb, two, kindS]
  | @idx v l v1 v2 hl hb =>
    obtain ⟨l', hl', hl2, hp, hr⟩ := bag_of hb
    have : l = l' := by
      have h1 : l.map D.int = l'.map D.int := D.tup.inj hl'
      have h2 := congrArg intsD h1
      rw [intsD_map, intsD_map] at h2
      exact Option.some.inj h2
    subst this
    simp [d26, z2, f20 (pl_int _), isn v1 v2, f21 (pl_bag l), hb, len_bag, f19 v2 hl, index_bags hp hr, two, kindS]
  | @bag3 w d e h3 h4 hd he hb =>
    have h3' : ¬ w < 3 := by omega
    simp [d26, h3', z1, f21 hd, hb, two, kindS]
  | @value w l e h3 h4 hl he hb hn =>
    have h3' : ¬ w < 3 := by omega
    simp [d26, h3', z1, z2, f21 (pl_bag l), hb, f20 he.1, hn, two, kindS]
  | @plus l i hl hb hn =>
    have e1 : primF .sorted [.lst true (l.map .int ++ [.int i])] S = .ok (.lst true ((sortI (l ++ [i])).map .int)) S := by rw [ints_snoc, sorted_ints]
    have e2 : binF .Add (.lst true (l.map .int)) (.lst true [.int i]) S = .ok (.lst true (l.map .int ++ [.int i])) S := add_lst _ _ _ _ _ (by rw [List.length_map, PySem.sizeLine_eq]; simp; omega)
    simp [d26, z1, f21 (pl_bag l), hb, f20 (pl_int _), hn, one, two, e1, e2, plusD, kindS]
    rfl
  | @absent l i hl hb hn hi =>
    have hc : l.contains i = false := by simpa using hi
    simp [d26, z1, f21 (pl_bag l), hb, f20 (pl_int _), hn, two, cmp_notin, hc, hi, kindS]
  | @less l i hl hb hn hi =>
    have hc : l.contains i = true := by simpa using hi
    simp [d26, z1, f21 (pl_bag l), hb, f20 (pl_int _), hn, two, cmp_notin, hc, hi, index_bag hi, cut_add _ _ _ (show l.length ≤ 100 by omega), kindS]
end Lw
end

section
set_option Elab.async false
set_option linter.all false
set_option maxRecDepth 100000
set_option maxHeartbeats 1000000
/-! M12: k01: the box of drawn numbers. -/
namespace Lw
open Dl
variable {n : Nat} {bs : List Nat} {S : Sto}
def boxD (a : Int) (f : Bool) (m c : Int) : D := .lst true [.int a, .bl f, .int m, .int c]
/-- a good box stands in the cell b; at most N numbers were mixed -/
def GB (N : Nat) (S : Sto) (b : Nat) : Prop := ∃ a f m c, S[b]? = some (boxD a f m c) ∧ 0 ≤ a ∧ 0 ≤ m ∧ m < 2147483648 ∧ 0 ≤ c ∧ c ≤ (N : Int)
/-- nothing but the box changed -/
def Sm (b : Nat) (S S' : Sto) : Prop := S'.length = S.length ∧ ∀ i, i ≠ b → S'[i]? = S[i]?
theorem Sm.refl {b : Nat} {S : Sto} : Sm b S S := ⟨rfl, fun _ _ => rfl⟩
theorem Sm.trans {b : Nat} {S S1 S2 : Sto} (h : Sm b S S1) (k : Sm b S1 S2) : Sm b S S2 := ⟨k.1.trans h.1, fun i hi => (k.2 i hi).trans (h.2 i hi)⟩
theorem Sm.set {b : Nat} {S : Sto} {x : D} : Sm b S (S.set b x) := ⟨List.length_set, fun i hi => List.getElem?_set_ne (Ne.symm hi)⟩
theorem GB.mono {N M : Nat} {b : Nat} {S : Sto} (h : GB N S b) (hm : N ≤ M) : GB M S b := by
  obtain ⟨a, f, m, c, h1, h2, h3, h4, h5, h6⟩ := h
  exact ⟨a, f, m, c, h1, h2, h3, h4, h5, by omega⟩
theorem log2_le (x : Nat) (k : Nat) (h : x < 2 ^ k) (hk : 0 < k) : x.log2 < k := by
  by_cases h0 : x = 0
  · subst h0
    simpa using hk
  · exact (Nat.log2_lt h0).mpr h
theorem okB_int (bs : List Nat) (n : Nat) (i : Int) : okB bs n (.int i) = true := by
  unfold okB
  rw [List.all_eq_true]
  intro β _
  show (decide (β ≤ n) || true) = true
  rw [Bool.or_true]
theorem put_box0 {a : Int} {f : Bool} {m c v : Int} {S : Sto} {b : Nat} (bs : List Nat) (h : S[b]? = some (boxD a f m c)) : putF bs (.ref b) (.int 0) (.int v) S = some (S.set b (boxD v f m c)) := by
  have e : putF bs (.ref b) (.int 0) (.int v) S = (match S[b]? with
    | some (.lst _ xs) => (match L2.ixN xs.length 0 with | some k => if okB bs b (.int v) then some (S.set b (.lst true (xs.set k (.int v)))) else none | none => none)
    | _ => none) := rfl
  rw [e, h]
  show (match L2.ixN 4 0 with | some k => if okB bs b (.int v) then some (S.set b (.lst true ([D.int a, .bl f, .int m, .int c].set k (.int v)))) else none | none => none) = _
  rw [show L2.ixN 4 0 = some 0 from rfl]
  dsimp only
  rw [okB_int, if_pos rfl]
  rfl
theorem put_box3 {a : Int} {f : Bool} {m c v : Int} {S : Sto} {b : Nat} (bs : List Nat) (h : S[b]? = some (boxD a f m c)) : putF bs (.ref b) (.int 3) (.int v) S = some (S.set b (boxD a f m v)) := by
  have e : putF bs (.ref b) (.int 3) (.int v) S = (match S[b]? with
    | some (.lst _ xs) => (match L2.ixN xs.length 3 with | some k => if okB bs b (.int v) then some (S.set b (.lst true (xs.set k (.int v)))) else none | none => none)
    | _ => none) := rfl
  rw [e, h]
  show (match L2.ixN 4 3 with | some k => if okB bs b (.int v) then some (S.set b (.lst true ([D.int a, .bl f, .int m, .int c].set k (.int v)))) else none | none => none) = _
  rw [show L2.ixN 4 3 = some 3 from rfl]
  dsimp only
  rw [okB_int, if_pos rfl]
  rfl
section
variable {a : Int} {f : Bool} {m c : Int} {b : Nat}
theorem box0 (h : S[b]? = some (boxD a f m c)) : subF (.ref b) (.int 0) S = .ok (.int a) S := by
  unfold subF look
  dsimp only
  rw [h]
  rfl
theorem box1 (h : S[b]? = some (boxD a f m c)) : subF (.ref b) (.int 1) S = .ok (.bl f) S := by
  unfold subF look
  dsimp only
  rw [h]
  rfl
theorem box2 (h : S[b]? = some (boxD a f m c)) : subF (.ref b) (.int 2) S = .ok (.int m) S := by
  unfold subF look
  dsimp only
  rw [h]
  rfl
theorem box3 (h : S[b]? = some (boxD a f m c)) : subF (.ref b) (.int 3) S = .ok (.int c) S := by
  unfold subF look
  dsimp only
  rw [h]
  rfl
end
theorem f18 {N : Nat} {b : Nat} {k : Int} (hk : 0 < k) (hk2 : k ≤ 1000) (hN : N < 100000) (g : GB N S b) : ∃ r S', callF pg (n + 1) bs 18 [.ref b, .int k] S = .ok (.int r) S' ∧ 0 ≤ r ∧ r < k ∧ GB (N + 1) S' b ∧ Sm b S S' := by
  obtain ⟨a, f, m, c, h1, h2, h3, h4, h5, h6⟩ := g
  have hb : b < S.length := (List.getElem?_eq_some_iff.mp h1).1
  have kl : k.natAbs.log2 < 9000 := by have := log2_le k.natAbs 20 (by omega) (by omega); omega
  have k0 : k ≠ 0 := by omega
  by_cases hf : f = true ∧ 0 < a
  · obtain ⟨rfl, ha⟩ := hf
    refine ⟨a.fmod k, S.set b (boxD (a / k) true m c), ?_, Int.fmod_nonneg_of_pos a hk, Int.fmod_lt_of_pos a hk, ⟨a / k, true, m, c, List.getElem?_set_self hb, Int.ediv_nonneg h2 (by omega), h3, h4, h5, by omega⟩, Sm.set⟩
    refine call_rt (Df := d18) rfl rfl (by decide) ?_ (by rw [List.length_set]; exact Nat.le_refl _)
    simp [d18, box0 h1, box1 h1, ha, k0, hk, kl, put_box0 _ h1]
  · have hc : (c + 1).natAbs < 2 ^ 20 := by omega
    have e1 := fun (T : Pg) (C : List Nat → Nat → List D → Sto → R D) => put_box3 (v := c + 1) (S.length :: bs) h1
    have h1' : (S.set b (boxD a f m (c + 1)))[b]? = some (boxD a f m (c + 1)) := List.getElem?_set_self hb
    have l1 : (15485863 : Int).natAbs.log2 + (c + 1).natAbs.log2 < 1000000 := by
      have := log2_le (15485863 : Int).natAbs 24 (by decide) (by omega)
      have := log2_le (c + 1).natAbs 20 hc (by omega)
      omega
    have p1 : (m + 15485863 * (c + 1) + 179424697).natAbs < 2 ^ 64 := by omega
    have hm1 := Int.fmod_nonneg_of_pos ((m + 15485863 * (c + 1) + 179424697) ^ 5) (show (0 : Int) < 2147483647 by omega)
    have hm2 := Int.fmod_lt_of_pos ((m + 15485863 * (c + 1) + 179424697) ^ 5) (show (0 : Int) < 2147483647 by omega)
    generalize hx : Int.fmod ((m + 15485863 * (c + 1) + 179424697) ^ 5) 2147483647 = x at hm1 hm2
    have l2 : x.natAbs.log2 + (48271 : Int).natAbs.log2 < 1000000 := by
      have := log2_le x.natAbs 32 (by omega) (by omega)
      have := log2_le (48271 : Int).natAbs 24 (by decide) (by omega)
      omega
    have l3 : (104723 : Int).natAbs.log2 + (c + 1).natAbs.log2 < 1000000 := by
      have := log2_le (104723 : Int).natAbs 24 (by decide) (by omega)
      have := log2_le (c + 1).natAbs 20 hc (by omega)
      omega
    have p2 : (x * 48271 + 104723 * (c + 1)).natAbs < 2 ^ 64 := by omega
    have l64 : (64 : Int).natAbs.log2 < 9000 := by decide
    refine ⟨((((x * 48271 + 104723 * (c + 1)) ^ 3).fmod 2147483587) / 64).fmod k, S.set b (boxD a f m (c + 1)), ?_, Int.fmod_nonneg_of_pos _ hk, Int.fmod_lt_of_pos _ hk, ⟨a, f, m, c + 1, h1', h2, h3, h4, by omega, by omega⟩, Sm.set⟩
    refine call_rt (Df := d18) rfl rfl (by decide) ?_ (by rw [List.length_set]; exact Nat.le_refl _)
    have hcond : evT pg (callF pg n) (S.length :: bs) (.and (.e (.sub (.var 0) (.cst (.int 1)))) (.e (.cmp .Gt (.sub (.var 0) (.cst (.int 0))) (.cst (.int 0))))) [some (.ref b), some (.int k), none, none] S = .ok false S := by
      cases f with
      | false => simp [box1 h1]
      | true =>
        have ha : ¬ 0 < a := fun z => hf ⟨rfl, z⟩
        simp [box0 h1, box1 h1, ha]
    have q3 := put_box3 (v := c + 1) (S.length :: bs) h1
    have m1 : binF .Mult (.int 15485863) (.int (c + 1)) (S.set b (boxD a f m (c + 1))) = .ok (.int (15485863 * (c + 1))) (S.set b (boxD a f m (c + 1))) := by rw [bin_mul, if_pos l1]
    have m2 : binF .Pow (.int (m + 15485863 * (c + 1) + 179424697)) (.int 5) (S.set b (boxD a f m (c + 1))) = .ok (.int ((m + 15485863 * (c + 1) + 179424697) ^ 5)) (S.set b (boxD a f m (c + 1))) := by
      rw [bin_pow, if_pos ⟨by omega, by omega, p1⟩]
      rfl
    have m3 : binF .Mod (.int ((m + 15485863 * (c + 1) + 179424697) ^ 5)) (.int 2147483647) (S.set b (boxD a f m (c + 1))) = .ok (.int x) (S.set b (boxD a f m (c + 1))) := by rw [bin_mod, if_pos (by omega), hx]
    have m4 : binF .Mult (.int x) (.int 48271) (S.set b (boxD a f m (c + 1))) = .ok (.int (x * 48271)) (S.set b (boxD a f m (c + 1))) := by rw [bin_mul, if_pos l2]
    have m5 : binF .Mult (.int 104723) (.int (c + 1)) (S.set b (boxD a f m (c + 1))) = .ok (.int (104723 * (c + 1))) (S.set b (boxD a f m (c + 1))) := by rw [bin_mul, if_pos l3]
    have m6 : binF .Pow (.int (x * 48271 + 104723 * (c + 1))) (.int 3) (S.set b (boxD a f m (c + 1))) = .ok (.int ((x * 48271 + 104723 * (c + 1)) ^ 3)) (S.set b (boxD a f m (c + 1))) := by
      rw [bin_pow, if_pos ⟨by omega, by omega, p2⟩]
      rfl
    have m7 : binF .Mod (.int ((x * 48271 + 104723 * (c + 1)) ^ 3)) (.int 2147483587) (S.set b (boxD a f m (c + 1))) = .ok (.int (((x * 48271 + 104723 * (c + 1)) ^ 3).fmod 2147483587)) (S.set b (boxD a f m (c + 1))) := by rw [bin_mod, if_pos (by omega)]
    have m8 : binF .FloorDiv (.int (((x * 48271 + 104723 * (c + 1)) ^ 3).fmod 2147483587)) (.int 64) (S.set b (boxD a f m (c + 1))) = .ok (.int (((x * 48271 + 104723 * (c + 1)) ^ 3).fmod 2147483587 / 64)) (S.set b (boxD a f m (c + 1))) := by rw [bin_div, if_pos ⟨by omega, l64⟩]
    have m9 : binF .Mod (.int (((x * 48271 + 104723 * (c + 1)) ^ 3).fmod 2147483587 / 64)) (.int k) (S.set b (boxD a f m (c + 1))) = .ok (.int ((((x * 48271 + 104723 * (c + 1)) ^ 3).fmod 2147483587 / 64).fmod k)) (S.set b (boxD a f m (c + 1))) := by rw [bin_mod, if_pos k0]
    show execs pg (callF pg n) (S.length :: bs) d18.body [some (.ref b), some (.int k), none, none] S = _
    unfold d18
    dsimp only
    rw [execs_cons, exec_ite, hcond, rsof_ok, if_neg Bool.false_ne_true, execs_nil]
    simp only [execs_cons, execs_nil, exec_put, exec_asg, exec_ret, ev_bin, ev_sub, ev_var, ev_cst, ev_prim, evs_bin, evs_sub, evs_nil, bind_ok, rsof_ok, List.getElem?_cons_zero, List.getElem?_cons_succ, box3 h1, bin_add, frz_int, q3, box2 h1', box3 h1', m1, m2, prim_int, m3, asgV_nm, List.length_cons, List.length_nil, List.set_cons_succ, List.set_cons_zero, m4, m5, m6, m7, m8, m9, Nat.zero_add, Nat.reduceAdd, Nat.reduceLT, if_true]
end Lw
end

section
set_option Elab.async false
set_option linter.all false
set_option maxRecDepth 100000
set_option maxHeartbeats 1000000
/-! M13: k01: texts. -/
namespace Lw
open Dl
/-- data whose text is short -/
structure Rd (k W : Nat) (d : D) : Prop where
  sh : ∀ n, shD (k + n) d = true
  lv : PySem.PyData.leavesShort 25 (toPy d) = true
  wt : (toPy d).weight ≤ W
theorem Rd.mono {k W k2 W2 : Nat} {d : D} (h : Rd k W d) (hk : k ≤ k2) (hw : W ≤ W2) : Rd k2 W2 d := ⟨fun n => by
  have := h.sh (k2 - k + n)
  rw [show k + (k2 - k + n) = k2 + n by omega] at this
  exact this, h.lv, Nat.le_trans h.wt hw⟩
theorem repr_ok {k W : Nat} {d : D} (h : Rd k W d) (hk : k ≤ 60) (hw : W ≤ 600000) (S : Sto) : primF .repr [d] S = .ok (.str (PySem.PyData.shown (toPy d))) S := by
  have h1 : shD 60 d = true := by
    have := h.sh (60 - k)
    rw [show k + (60 - k) = 60 by omega] at this
    exact this
  have h2 : normS S d = some d := by
    unfold normS
    rw [if_pos h1]
  have h3 := PySem.PyData.shown_le 25 (by omega) (toPy d) h.lv
  have h4 : (PySem.PyData.shown (toPy d)).length ≤ PySem.sizeLine := by
    have := h.wt
    rw [PySem.sizeLine_eq]
    omega
  have e : primF .repr [d] S = (match normS S d with | some d => if (PySem.PyData.shown (toPy d)).length ≤ PySem.sizeLine then R.ok (.str (PySem.PyData.shown (toPy d))) S else .er | none => .er) := rfl
  rw [e, h2]
  dsimp only
  rw [if_pos h4]
theorem rd_all {k W : Nat} : ∀ {xs : List D}, (∀ x, x ∈ xs → Rd k W x) → (∀ n, shL (k + n) xs = true) ∧ PySem.PyData.leavesShortAll 25 (toPyL xs) = true ∧ PySem.PyData.weightAll (toPyL xs) ≤ xs.length * (W + 1)
  | [], _ => ⟨fun n => by cases h : k + n <;> rfl, rfl, by simp [toPyL, PySem.PyData.weightAll]⟩
  | x :: xs, h => by
    obtain ⟨h1, h2, h3⟩ := rd_all fun y hy => h y (List.mem_cons_of_mem _ hy)
    have hx := h x List.mem_cons_self
    refine ⟨fun n => ?_, ?_, ?_⟩
    · have e1 := hx.sh n
      have e2 := h1 n
      cases hkn : k + n with
      | zero => rw [hkn] at e1 e2; rw [shL, e1, e2]; rfl
      | succ m => rw [hkn] at e1 e2; rw [shL, e1, e2]; rfl
    · rw [toPyL, PySem.PyData.leavesShortAll, hx.lv, h2]
      rfl
    · rw [toPyL, PySem.PyData.weightAll, List.length_cons]
      have := hx.wt
      rw [Nat.succ_mul]
      omega
theorem rd_tup {k W : Nat} {xs : List D} (h : ∀ x, x ∈ xs → Rd k W x) : Rd (k + 1) (xs.length * (W + 1) + 1) (.tup xs) := by
  obtain ⟨h1, h2, h3⟩ := rd_all h
  refine ⟨fun n => ?_, ?_, ?_⟩
  · rw [show k + 1 + n = (k + n) + 1 by omega]
    exact h1 n
  · rw [toPy, PySem.PyData.leavesShort]
    exact h2
  · rw [toPy, PySem.PyData.weight]
    omega
theorem rd_lst {k W : Nat} {o : Bool} {xs : List D} (h : ∀ x, x ∈ xs → Rd k W x) : Rd (k + 1) (xs.length * (W + 1) + 1) (.lst o xs) := by
  obtain ⟨h1, h2, h3⟩ := rd_all h
  refine ⟨fun n => ?_, ?_, ?_⟩
  · rw [show k + 1 + n = (k + n) + 1 by omega]
    exact h1 n
  · rw [toPy, PySem.PyData.leavesShort]
    exact h2
  · rw [toPy, PySem.PyData.weight]
    omega
theorem sh_int : ∀ i : Nat, i ≤ 1000 → (PySem.PyData.shown (.int i)).length ≤ 25 := by
  have h : ∀ i, i < 1001 → (PySem.PyData.shown (.int (i : Nat))).length ≤ 25 := by decide +kernel
  exact fun i hi => h i (by omega)
theorem rd_int {i : Int} (h0 : 0 ≤ i) (h : i ≤ 1000) : Rd 0 12 (.int i) := by
  refine ⟨fun n => ?_, ?_, ?_⟩
  · have : i.natAbs.log2 < 1920 := by have := log2_le i.natAbs 10 (by omega) (by omega); omega
    cases n <;> exact decide_eq_true this
  · obtain ⟨k, rfl⟩ : ∃ k : Nat, i = k := ⟨i.toNat, by omega⟩
    exact decide_eq_true (sh_int k (by omega))
  · rw [toPy, PySem.PyData.weight]
    have := log2_le i.natAbs 10 (by omega) (by omega)
    split <;> omega
theorem rd_bag {l : List Int} (hl : l.length ≤ 8) (hr : ∀ i, i ∈ l → 0 ≤ i ∧ i ≤ 1000) : Rd 1 200 (bagD l) := by
  refine (rd_tup (k := 0) (W := 12) fun x hx => ?_).mono (Nat.le_refl _) (by rw [List.length_map]; omega)
  obtain ⟨i, hi, rfl⟩ := List.mem_map.mp hx
  exact rd_int (hr i hi).1 (hr i hi).2
theorem rd_bags {o : Bool} {v s : Nat} (hv : v ≤ 4) (hs : s ≤ 6) : Rd 2 20000 (.lst o (bagsD v s)) := by
  have hl := bags_few v hv s hs
  refine (rd_lst (k := 1) (W := 200) fun x hx => ?_).mono (Nat.le_refl _) (by rw [bagsD_len]; omega)
  unfold bagsD at hx
  obtain ⟨l, hm, rfl⟩ := List.mem_map.mp hx
  obtain ⟨h1, h2⟩ := bags_mem hm
  exact rd_bag (by omega) fun i hi => by have := h2 i hi; omega
/-- the same text, whatever the flags -/
theorem toPy_lst (o o2 : Bool) (xs : List D) : toPy (.lst o xs) = toPy (.lst o2 xs) := by rw [toPy, toPy]
end Lw
end

section
set_option Elab.async false
set_option linter.all false
set_option maxRecDepth 100000
set_option maxHeartbeats 1000000
/-! M14: k01: drawn values. -/
namespace Lw
open Dl
variable {n : Nat} {bs : List Nat} {S : Sto}
/-- a value of a question -/
def Vl (d : D) : Prop := PlT d ∧ Rd 4 5000 d
def oddL : List D := [.non, .bl true, .bl false, .int (-1), .int (10 ^ 19), .str (PySem.Str.ofString "1"), .str (PySem.Str.ofString ""), .lst false [], .lst false [.int 1], .tup [.int 1], .tup [], .dic false [.str (PySem.Str.ofString "a")] [.int 1], .tup [.int 0, .int 0], .tup [.tup [.int 0]], .int 3, .int (-10 ^ 18)]
theorem rd_one {d : D} (h1 : ∀ n, shD (n + 4) d = true) (h2 : PySem.PyData.leavesShort 25 (toPy d) = true) (h3 : (toPy d).weight ≤ 5000) : Rd 4 5000 d := ⟨fun n => by rw [Nat.add_comm]; exact h1 n, h2, h3⟩
theorem plt_of {d : D} (h : (∃ t, tyP d = some t) ∧ frz d = d) (h2 : ∀ xs, d = .tup xs → ∀ x, x ∈ xs → PlD x) : PlT d := ⟨h, h2⟩
theorem odd_vl : ∀ d, d ∈ oddL → Vl d := by
  intro d h
  unfold oddL at h
  simp only [List.mem_cons, List.not_mem_nil, or_false] at h
  rcases h with rfl | rfl | rfl | rfl | rfl | rfl | rfl | rfl | rfl | rfl | rfl | rfl | rfl | rfl | rfl | rfl
  · exact ⟨⟨⟨⟨_, rfl⟩, rfl⟩, fun xs h => by cases h⟩, rd_one (fun n => rfl) (by decide +kernel) (by decide +kernel)⟩
  · exact ⟨⟨⟨⟨_, rfl⟩, rfl⟩, fun xs h => by cases h⟩, rd_one (fun n => rfl) (by decide +kernel) (by decide +kernel)⟩
  · exact ⟨⟨⟨⟨_, rfl⟩, rfl⟩, fun xs h => by cases h⟩, rd_one (fun n => rfl) (by decide +kernel) (by decide +kernel)⟩
  · exact ⟨⟨⟨⟨_, rfl⟩, rfl⟩, fun xs h => by cases h⟩, rd_one (fun n => rfl) (by decide +kernel) (by decide +kernel)⟩
  · exact ⟨⟨⟨⟨_, rfl⟩, rfl⟩, fun xs h => by cases h⟩, rd_one (fun n => rfl) (by decide +kernel) (by decide +kernel)⟩
  · exact ⟨⟨⟨⟨_, rfl⟩, rfl⟩, fun xs h => by cases h⟩, rd_one (fun n => rfl) (by decide +kernel) (by decide +kernel)⟩
  · exact ⟨⟨⟨⟨_, rfl⟩, rfl⟩, fun xs h => by cases h⟩, rd_one (fun n => rfl) (by decide +kernel) (by decide +kernel)⟩
  · exact ⟨⟨⟨⟨_, rfl⟩, rfl⟩, fun xs h => by cases h⟩, rd_one (fun n => rfl) (by decide +kernel) (by decide +kernel)⟩
  · exact ⟨⟨⟨⟨_, rfl⟩, rfl⟩, fun xs h => by cases h⟩, rd_one (fun n => rfl) (by decide +kernel) (by decide +kernel)⟩
  · exact ⟨⟨⟨⟨_, rfl⟩, rfl⟩, fun xs h x hx => by cases h; simp at hx; subst hx; exact pl_int _⟩, rd_one (fun n => rfl) (by decide +kernel) (by decide +kernel)⟩
  · exact ⟨⟨⟨⟨_, rfl⟩, rfl⟩, fun xs h x hx => by cases h; simp at hx⟩, rd_one (fun n => rfl) (by decide +kernel) (by decide +kernel)⟩
  · exact ⟨⟨⟨⟨_, rfl⟩, rfl⟩, fun xs h => by cases h⟩, rd_one (fun n => rfl) (by decide +kernel) (by decide +kernel)⟩
  · exact ⟨⟨⟨⟨_, rfl⟩, rfl⟩, fun xs h x hx => by cases h; simp at hx; subst hx; exact pl_int _⟩, rd_one (fun n => rfl) (by decide +kernel) (by decide +kernel)⟩
  · exact ⟨⟨⟨⟨_, rfl⟩, rfl⟩, fun xs h x hx => by cases h; simp at hx; subst hx; exact ⟨⟨_, rfl⟩, rfl⟩⟩, rd_one (fun n => rfl) (by decide +kernel) (by decide +kernel)⟩
  · exact ⟨⟨⟨⟨_, rfl⟩, rfl⟩, fun xs h => by cases h⟩, rd_one (fun n => rfl) (by decide +kernel) (by decide +kernel)⟩
  · exact ⟨⟨⟨⟨_, rfl⟩, rfl⟩, fun xs h => by cases h⟩, rd_one (fun n => rfl) (by decide +kernel) (by decide +kernel)⟩
theorem vl_int {i : Int} (h0 : -1 ≤ i) (h : i ≤ 1000) : Vl (.int i) := by
  refine ⟨⟨pl_int i, fun xs h => by cases h⟩, ?_⟩
  by_cases hi : 0 ≤ i
  · exact (rd_int hi h).mono (by omega) (by omega)
  · obtain rfl : i = -1 := by omega
    exact rd_one (fun n => rfl) (by decide +kernel) (by decide +kernel)
/-- a drawn value: the box stays good -/
def Drw (P : D → Prop) (r : R D) (N : Nat) (S : Sto) (b : Nat) : Prop := ∃ d S', r = .ok d S' ∧ P d ∧ GB N S' b ∧ Sm b S S'
theorem Drw.imp {P Q : D → Prop} {r : R D} {N M : Nat} {S : Sto} {b : Nat} (h : Drw P r N S b) (hpq : ∀ d, P d → Q d) (hm : N ≤ M) : Drw Q r M S b := by
  obtain ⟨d, S', h1, h2, h3, h4⟩ := h
  exact ⟨d, S', h1, hpq d h2, h3.mono hm, h4⟩
/-- a list's item by a drawn place -/
theorem at_get {xs : List D} {r : Int} {S : Sto} {o : Bool} (h0 : 0 ≤ r) (h : r < xs.length) : ∃ d, d ∈ xs ∧ subF (.lst o xs) (.int r) S = .ok d S := by
  have hl : r.toNat < xs.length := by omega
  refine ⟨xs[r.toNat], List.getElem_mem hl, ?_⟩
  have e : subF (.lst o xs) (.int r) S = R.ofO (L2.atI xs r) S := rfl
  rw [e]
  unfold L2.atI L2.ixN
  rw [if_pos h0, if_pos h]
  simp [hl]
theorem f22 {N b : Nat} (hN : N < 99000) (g : GB N S b) : Drw (fun d => Vl (frz d)) (callF pg (n + 2) bs 22 [.ref b] S) (N + 1) S b := by
  obtain ⟨r, S', h1, h2, h3, h4, h5⟩ := f18 (n := n) (bs := S.length :: bs) (k := 16) (by omega) (by omega) (by omega) g
  obtain ⟨d, hd, hs⟩ := at_get (xs := oddL) (o := false) (S := S') h2 (by exact h3)
  have fz : frz d = d := (odd_vl d hd).1.1.2
  refine ⟨d, S', ?_, by show Vl (frz d); rw [fz]; exact odd_vl d hd, h4, h5⟩
  have e0 : exec pg (callF pg (n + 1)) (S.length :: bs) (d22.body.headD .pass) [some (.ref b), none] S = .nx [some (.ref b), some (.lst false oddL)] S := by
    have z : ∀ k : Nat, k ≤ 100 → k ≤ PySem.sizeLine := fun k h => by rw [PySem.sizeLine_eq]; omega
    have dc : primF .dict [.lst true [.tup [.str (PySem.Str.ofString "a"), .int 1]]] S = .ok (.dic true [.str (PySem.Str.ofString "a")] [.int 1]) S := rfl
    simp [d22, z 1, z 2, z 16, dc, oddL]
  refine call_rt (Df := d22) rfl rfl (by decide) ?_ (Nat.le_of_eq h5.1)
  show execs pg (callF pg (n + 1)) (S.length :: bs) [d22.body.headD .pass, .ret (some (.sub (.var 1) (.call 18 [(.var 0), (.cst (.int 16))])))] [some (.ref b), none] S = _
  rw [execs_cons, e0]
  simp [h1, hs]
theorem f23 {N b : Nat} {lo hi : Int} (hN : N < 90000) (hlo : 0 ≤ lo) (hlh : lo ≤ hi) (hhi : hi ≤ 10) (g : GB N S b) : Drw (fun d => Vl (frz d)) (callF pg (n + 3) bs 23 [.ref b, .int lo, .int hi] S) (N + 2) S b := by
  obtain ⟨r, S1, h1, h2, h3, h4, h5⟩ := f18 (n := n + 1) (bs := S.length :: bs) (k := 8) (by omega) (by omega) (by omega) g
  by_cases c1 : r < 5
  · obtain ⟨q, S2, k1, k2, k3, k4, k5⟩ := f18 (n := n + 1) (bs := S.length :: bs) (k := hi - lo + 1) (by omega) (by omega) (by omega) h4
    refine ⟨.int (lo + q), S2, ?_, vl_int (by omega) (by omega), k4, h5.trans k5⟩
    refine call_rt (Df := d23) rfl rfl (by decide) ?_ (Nat.le_of_eq (h5.trans k5).1)
    simp [d23, h1, c1, k1]
  · by_cases c2 : r = 5
    · subst c2
      obtain ⟨q, S2, k1, k2, k3, k4, k5⟩ := f18 (n := n + 1) (bs := S.length :: bs) (k := 2) (by omega) (by omega) (by omega) h4
      obtain ⟨d, hd, hs⟩ := at_get (xs := [.int (lo - 1), .int (hi + 1)]) (o := true) (S := S2) k2 (by exact k3)
      have two : 2 ≤ PySem.sizeLine := by rw [PySem.sizeLine_eq]; omega
      have hv : Vl (frz d) := by
        simp at hd
        rcases hd with rfl | rfl
        · exact vl_int (by omega) (by omega)
        · exact vl_int (by omega) (by omega)
      refine ⟨d, S2, ?_, hv, k4, h5.trans k5⟩
      refine call_rt (Df := d23) rfl rfl (by decide) ?_ (Nat.le_of_eq (h5.trans k5).1)
      simp [d23, h1, k1, two, hs]
    · obtain ⟨d, S2, k1, k2, k3, k4⟩ := f22 (n := n) (bs := S.length :: bs) (by omega) h4
      refine ⟨d, S2, ?_, k2, k3, h5.trans k4⟩
      refine call_rt (Df := d23) rfl rfl (by decide) ?_ (Nat.le_of_eq (h5.trans k4).1)
      simp [d23, h1, c1, c2, k1]
end Lw
end

section
set_option Elab.async false
set_option linter.all false
set_option maxRecDepth 100000
set_option maxHeartbeats 1000000
/-! M15: k01: drawn bags, and what is near to one. -/
namespace Lw
open Dl
variable {n : Nat} {bs : List Nat} {S : Sto}
theorem loop_box {f : D → Sto → R (List D)} {b : Nat} {k : Int} : ∀ {xs : List D} {N : Nat} {S : Sto}, (∀ x, x ∈ xs → ∀ M S, M < N + xs.length → GB M S b → ∃ (i : Int) (S' : Sto), f x S = .ok [.int i] S' ∧ 0 ≤ i ∧ i < k ∧ GB (M + 1) S' b ∧ Sm b S S') → GB N S b →
    ∃ (l : List Int) (S' : Sto), loopL f xs S = .ok (l.map .int) S' ∧ l.length = xs.length ∧ (∀ i, i ∈ l → 0 ≤ i ∧ i < k) ∧ GB (N + xs.length) S' b ∧ Sm b S S'
  | [], N, S, _, g => ⟨[], S, rfl, rfl, fun i h => absurd h List.not_mem_nil, g, .refl⟩
  | x :: xs, N, S, h, g => by
    obtain ⟨i, S1, h1, h2, h3, h4, h5⟩ := h x List.mem_cons_self N S (by rw [List.length_cons]; omega) g
    obtain ⟨l, S2, k1, k2, k3, k4, k5⟩ := loop_box (f := f) (xs := xs) (N := N + 1) (S := S1) (fun y hy M S hM hg => h y (List.mem_cons_of_mem _ hy) M S (by rw [List.length_cons]; omega) hg) h4
    refine ⟨i :: l, S2, ?_, by rw [List.length_cons, List.length_cons, k2], fun j hj => ?_, by rw [List.length_cons, show N + (xs.length + 1) = N + 1 + xs.length by omega]; exact k4, h5.trans k5⟩
    · rw [loopL, h1, bind_ok, k1, bind_ok]
      rfl
    · rcases List.mem_cons.mp hj with rfl | hj
      · exact ⟨h2, h3⟩
      · exact k3 j hj
theorem f24 {N b : Nat} {k : Int} (hN : N < 90000) (hk : 0 < k) (hk2 : k ≤ 10) (g : GB N S b) : Drw (fun d => ∃ l : List Int, d = bagD l ∧ l.length ≤ 6 ∧ ∀ i, i ∈ l → 0 ≤ i ∧ i < k) (callF pg (n + 2) bs 24 [.ref b, .int k] S) (N + 7) S b := by
  obtain ⟨r, S1, h1, h2, h3, h4, h5⟩ := f18 (n := n) (bs := S.length :: bs) (k := 7) (by omega) (by omega) (by omega) g
  have hlen : (rngL 0 r).length = r.toNat := by unfold rngL; simp
  obtain ⟨l, S2, k1, k2, k3, k4, k5⟩ := loop_box (f := lcF pg (callF pg (n + 1)) (S.length :: bs) (.nm 2) [] (.call 18 [(.var 0), (.var 1)]) [some (.ref b), some (.int k), none]) (xs := rngL 0 r) (N := N + 1) (S := S1) (b := b) (k := k) (fun x hx M S' hM hg => by
    rw [hlen] at hM
    obtain ⟨q, S2, q1, q2, q3, q4, q5⟩ := f18 (n := n) (bs := S.length :: bs) (k := k) hk (by omega) (by omega) hg
    refine ⟨q, S2, ?_, q2, q3, q4, q5⟩
    unfold lcF
    simp [evC, evG, q1]) h4
  rw [hlen] at k2 k4
  refine ⟨bagD (sortI l), S2, ?_, ⟨sortI l, rfl, by rw [sort_len, k2]; omega, fun i hi => k3 i (sort_mem hi)⟩, k4.mono (by omega), h5.trans k5⟩
  refine call_rt (Df := d24) rfl rfl (by decide) ?_ (Nat.le_of_eq (h5.trans k5).1)
  have e1 : evI pg (callF pg (n + 1)) (S.length :: bs) (.rng [(.call 18 [(.var 0), (.cst (.int 7))])]) [some (.ref b), some (.int k), none] S = .ok (.its (rngL 0 r)) S1 := by
    have e : evs pg (callF pg (n + 1)) (S.length :: bs) [.call 18 [(.var 0), (.cst (.int 7))]] [some (.ref b), some (.int k), none] S = .ok [.int r] S1 := by simp [h1]
    rw [evI_rng, e, bind_ok, rng1 _ _ (small_of (by omega) (by omega))]
  have e2 : ev pg (callF pg (n + 1)) (S.length :: bs) (.lc [2] (.call 18 [(.var 0), (.var 1)]) [.mk (.nm 2) (.rng [(.call 18 [(.var 0), (.cst (.int 7))])]) []]) [some (.ref b), some (.int k), none] S = .ok (.lst true (l.map .int)) S2 := by
    rw [ev, e1]
    show (loopR (lcF pg (callF pg (n + 1)) (S.length :: bs) (.nm 2) [] (.call 18 [(.var 0), (.var 1)]) [some (.ref b), some (.int k), none]) (.its (rngL 0 r)) S1).bind (fun xs S => if xs.length < PySem.sizeLine then R.ok (D.lst true xs) S else R.er) = _
    rw [show loopR (lcF pg (callF pg (n + 1)) (S.length :: bs) (.nm 2) [] (.call 18 [(.var 0), (.var 1)]) [some (.ref b), some (.int k), none]) (.its (rngL 0 r)) S1 = _ from k1, bind_ok, if_pos (by rw [List.length_map, k2, PySem.sizeLine_eq]; omega)]
  simp [d24, e2, sorted_ints, bagD]
end Lw
end

section
set_option Elab.async false
set_option linter.all false
set_option maxRecDepth 100000
set_option maxHeartbeats 1000000
/-! M16: k01: what is near to a bag. -/
namespace Lw
open Dl
variable {n : Nat} {bs : List Nat} {S : Sto}
theorem vl_bag {l : List Int} (hl : l.length ≤ 8) (hr : ∀ i, i ∈ l → 0 ≤ i ∧ i ≤ 1000) : Vl (bagD l) := ⟨pl_bag l, (rd_bag hl hr).mono (by omega) (by omega)⟩
theorem vl_list {l : List Int} (hl : l.length ≤ 8) (hr : ∀ i, i ∈ l → 0 ≤ i ∧ i ≤ 1000) : Vl (.lst false (l.map .int)) := by
  refine ⟨⟨⟨⟨_, rfl⟩, by rw [frz_lst, frzL_ints]⟩, fun xs h => by cases h⟩, (rd_lst (k := 0) (W := 12) fun x hx => ?_).mono (by omega) (by rw [List.length_map]; omega)⟩
  obtain ⟨i, hi, rfl⟩ := List.mem_map.mp hx
  exact rd_int (hr i hi).1 (hr i hi).2
theorem vl_tup {xs : List D} (hl : xs.length ≤ 13) (h : ∀ x, x ∈ xs → PlD x ∧ Rd 3 300 x) : Vl (.tup xs) := by
  refine ⟨⟨⟨⟨_, rfl⟩, by rw [frz_tup, frzL_of fun x hx => (h x hx).1.2]⟩, fun ys hy x hx => by cases hy; exact (h x hx).1⟩, (rd_tup (k := 3) (W := 300) fun x hx => (h x hx).2).mono (by omega) (by omega)⟩
def thingL (k : Int) : List D := [.int k, .int (-1), .non, .bl true, .str (PySem.Str.ofString "0"), .tup [.int 0], .bl false, .lst true [.int 0]]
theorem rd_three {d : D} (h1 : ∀ n, shD (n + 3) d = true) (h2 : PySem.PyData.leavesShort 25 (toPy d) = true) (h3 : (toPy d).weight ≤ 300) : Rd 3 300 d := ⟨fun n => by rw [Nat.add_comm]; exact h1 n, h2, h3⟩
theorem thing_ok {k : Int} (h0 : 0 ≤ k) (h : k ≤ 10) : ∀ d, d ∈ thingL k → PlD (frz d) ∧ Rd 3 300 (frz d) := by
  intro d h
  unfold thingL at h
  simp only [List.mem_cons, List.not_mem_nil, or_false] at h
  rcases h with rfl | rfl | rfl | rfl | rfl | rfl | rfl | rfl
  · exact ⟨pl_int _, (rd_int h0 (by omega)).mono (by omega) (by omega)⟩
  · exact ⟨⟨⟨_, rfl⟩, rfl⟩, rd_three (fun n => rfl) (by decide +kernel) (by decide +kernel)⟩
  · exact ⟨⟨⟨_, rfl⟩, rfl⟩, rd_three (fun n => rfl) (by decide +kernel) (by decide +kernel)⟩
  · exact ⟨⟨⟨_, rfl⟩, rfl⟩, rd_three (fun n => rfl) (by decide +kernel) (by decide +kernel)⟩
  · exact ⟨⟨⟨_, rfl⟩, rfl⟩, rd_three (fun n => rfl) (by decide +kernel) (by decide +kernel)⟩
  · exact ⟨⟨⟨_, rfl⟩, rfl⟩, rd_three (fun n => rfl) (by decide +kernel) (by decide +kernel)⟩
  · exact ⟨⟨⟨_, rfl⟩, rfl⟩, rd_three (fun n => rfl) (by decide +kernel) (by decide +kernel)⟩
  · exact ⟨⟨⟨_, rfl⟩, rfl⟩, rd_three (fun n => rfl) (by decide +kernel) (by decide +kernel)⟩
theorem flat_zero : ∀ m : Nat, (List.replicate m [D.int 0]).flatten = (List.replicate m (0 : Int)).map .int
  | 0 => rfl
  | m + 1 => by rw [List.replicate_succ, List.flatten_cons, flat_zero m, List.replicate_succ]; rfl
theorem mul_zero {j : Int} (h0 : 0 ≤ j) (h : j ≤ 100) (S : Sto) : binF .Mult (.lst true [.int 0]) (.int j) S = .ok (.lst true ((List.replicate j.toNat (0 : Int)).map .int)) S := by
  have e : binF .Mult (.lst true [.int 0]) (.int j) S = if [D.int 0].all isSc = true ∧ -(2 ^ 63) ≤ j ∧ j < 2 ^ 63 ∧ [D.int 0].length * j.toNat ≤ PySem.sizeLine then .ok (.lst true (List.replicate j.toNat [D.int 0]).flatten) S else .er := rfl
  rw [e, if_pos ⟨rfl, by omega, by omega, by rw [PySem.sizeLine_eq]; simp; omega⟩, flat_zero]
theorem cut_mem {xs : List D} {lo hi : Option Int} {x : D} (h : x ∈ cutD xs lo hi) : x ∈ xs := by
  unfold cutD at h
  exact List.mem_of_mem_drop (List.mem_of_mem_take h)
@[simp] theorem rev_bag (l : List Int) (S : Sto) : revF (bagD l) S = .ok (bagD l.reverse) S := by
  show R.ok (D.tup (l.map D.int).reverse) S = R.ok (D.tup (l.reverse.map D.int)) S
  rw [List.map_reverse]
theorem f25 {N b : Nat} {k : Int} (hN : N < 80000) (hk : 0 < k) (hk2 : k ≤ 5) (g : GB N S b) : Drw (fun d => Vl (frz d)) (callF pg (n + 3) bs 25 [.ref b, .int k] S) (N + 20) S b := by
  obtain ⟨r, S1, h1, h2, h3, h4, h5⟩ := f18 (n := n + 1) (bs := S.length :: bs) (k := 10) (by omega) (by omega) (by omega) g
  obtain ⟨_, S2, k1, ⟨l, rfl, hl, hr⟩, k3, k4⟩ := f24 (n := n) (bs := S.length :: bs) (k := k) (by omega) hk (by omega) h4
  have h52 := h5.trans k4
  have hr' : ∀ i, i ∈ l → 0 ≤ i ∧ i ≤ 1000 := fun i hi => by have := hr i hi; omega
  have z : ∀ k : Nat, k ≤ 100 → k ≤ PySem.sizeLine := fun k h => by rw [PySem.sizeLine_eq]; omega
  by_cases c0 : r = 0
  · subst c0
    refine ⟨.lst true (l.map .int), S2, ?_, by show Vl (frz (.lst true (l.map .int))); rw [frz_lst, frzL_ints]; exact vl_list (by omega) hr', k3.mono (by omega), h52⟩
    refine call_rt (Df := d25) rfl rfl (by decide) ?_ (Nat.le_of_eq h52.1)
    simp [d25, h1, k1, frz_bag]
  by_cases c1 : r = 1
  · subst c1
    refine ⟨bagD l.reverse, S2, ?_, by show Vl (frz (bagD l.reverse)); rw [frz_bag]; exact vl_bag (by rw [List.length_reverse]; omega) fun i hi => hr' i (List.mem_reverse.mp hi), k3.mono (by omega), h52⟩
    refine call_rt (Df := d25) rfl rfl (by decide) ?_ (Nat.le_of_eq h52.1)
    simp [d25, h1, k1, frz_bag]
  by_cases c2 : r = 2
  · subst c2
    have e1 : binF .Add (.lst true (List.replicate (7 - l.length) (D.int 0))) (.lst true (l.map .int)) S2 = .ok (.lst true (List.replicate (7 - l.length) (D.int 0) ++ l.map .int)) S2 :=
      add_lst _ _ _ _ _ (by rw [List.length_map, List.length_replicate, PySem.sizeLine_eq]; omega)
    have hrz : ∀ i : Int, i ∈ List.replicate (7 - l.length) (0 : Int) ++ l → 0 ≤ i ∧ i ≤ 1000 := fun i hi => by
      rcases List.mem_append.mp hi with hi | hi
      · cases List.eq_of_mem_replicate hi
        omega
      · exact hr' i hi
    refine ⟨bagD (List.replicate (7 - l.length) (0 : Int) ++ l), S2, ?_, by show Vl (frz (bagD _)); rw [frz_bag]; exact vl_bag (by rw [List.length_append, List.length_replicate]; omega) hrz, k3.mono (by omega), h52⟩
    refine call_rt (Df := d25) rfl rfl (by decide) ?_ (Nat.le_of_eq h52.1)
    simp [d25, h1, k1, frz_bag, z 1, len_bag, mul_zero (show 0 ≤ 7 - (l.length : Int) by omega) (by omega), e1]
    simp [bagD]
  by_cases c3 : r = 3 ∧ l ≠ []
  · obtain ⟨rfl, hne⟩ := c3
    have hpos : 0 < l.length := List.length_pos_iff.mpr hne
    have hf : (l == []) = false := by simpa using hne
    obtain ⟨a, S3, q1, q2, q3, q4, q5⟩ := f18 (n := n + 1) (bs := S.length :: bs) (k := (l.length : Int)) (by omega) (by omega) (by omega) k3
    obtain ⟨t, S4, t1, t2, t3, t4, t5⟩ := f18 (n := n + 1) (bs := S.length :: bs) (k := 8) (by omega) (by omega) (by omega) q4
    obtain ⟨d, hd, hs⟩ := at_get (xs := thingL k) (o := true) (S := S4) t2 (by exact t3)
    obtain ⟨d1, d2⟩ := thing_ok (by omega) (by omega) d hd
    have h5' := (h52.trans q5).trans t5
    have l1 := cut_len (l.map .int) none (some a)
    have l2 := cut_len (l.map .int) (some (a + 1)) none
    rw [List.length_map] at l1 l2
    have e1 : binF .Add (.tup (cutD (l.map .int) none (some a))) (.tup [frz d]) S4 = .ok (.tup (cutD (l.map .int) none (some a) ++ [frz d])) S4 := add_tup _ _ _ (by rw [PySem.sizeLine_eq]; simp; omega)
    have e2 : binF .Add (.tup (cutD (l.map .int) none (some a) ++ [frz d])) (.tup (cutD (l.map .int) (some (a + 1)) none)) S4 = .ok (.tup (cutD (l.map .int) none (some a) ++ [frz d] ++ cutD (l.map .int) (some (a + 1)) none)) S4 := add_tup _ _ _ (by rw [PySem.sizeLine_eq, List.length_append]; simp; omega)
    have hitem : ∀ x, x ∈ l.map D.int → PlD x ∧ Rd 3 300 x := fun x hx => by
      obtain ⟨i, hi, rfl⟩ := List.mem_map.mp hx
      exact ⟨pl_int i, (rd_int (hr' i hi).1 (hr' i hi).2).mono (by omega) (by omega)⟩
    have hv : Vl (.tup (cutD (l.map .int) none (some a) ++ [frz d] ++ cutD (l.map .int) (some (a + 1)) none)) := by
      refine vl_tup (by rw [List.length_append, List.length_append]; simp; omega) fun x hx => ?_
      rcases List.mem_append.mp hx with hx | hx
      · rcases List.mem_append.mp hx with hx | hx
        · exact hitem x (cut_mem hx)
        · cases List.mem_singleton.mp hx
          exact ⟨d1, d2⟩
      · exact hitem x (cut_mem hx)
    refine ⟨_, S4, ?_, by show Vl (frz (.tup (cutD (l.map .int) none (some a) ++ [frz d] ++ cutD (l.map .int) (some (a + 1)) none))); rw [hv.1.1.2]; exact hv, t4.mono (by omega), h5'⟩
    refine call_rt (Df := d25) rfl rfl (by decide) ?_ (Nat.le_of_eq h5'.1)
    unfold thingL at hs
    simp [d25, h1, k1, frz_bag, cmp_bag, hf, len_bag, q1, t1, z 8, z 1, hs, e1, e2]
  by_cases c4 : r = 4
  · subst c4
    obtain ⟨d, S3, q1, q2, q3, q4⟩ := f22 (n := n) (bs := S.length :: bs) (by omega) k3
    refine ⟨d, S3, ?_, q2, q3.mono (by omega), h52.trans q4⟩
    refine call_rt (Df := d25) rfl rfl (by decide) ?_ (Nat.le_of_eq (h52.trans q4).1)
    simp [d25, h1, k1, frz_bag, q1]
  · refine ⟨bagD l, S2, ?_, by show Vl (frz (bagD l)); rw [frz_bag]; exact vl_bag (by omega) hr', k3.mono (by omega), h52⟩
    refine call_rt (Df := d25) rfl rfl (by decide) ?_ (Nat.le_of_eq h52.1)
    by_cases c5 : r = 3
    · subst c5
      have hl0 : l = [] := Classical.byContradiction fun z => c3 ⟨rfl, z⟩
      subst hl0
      simp [d25, h1, k1, frz_bag, cmp_bag]
    · simp [d25, h1, k1, frz_bag, c0, c1, c2, c4, c5]
end Lw
end

section
set_option Elab.async false
set_option linter.all false
set_option maxRecDepth 100000
set_option maxHeartbeats 1000000
/-! M17: k01: a question. -/
namespace Lw
open Dl
variable {n : Nat} {bs : List Nat} {S : Sto}
def Qs (d : D) : Prop := ∃ (w : Int) (d1 d2 : D), frz d = .lst false [.int w, d1, d2] ∧ 0 ≤ w ∧ w ≤ 4 ∧ Vl d1 ∧ Vl d2
@[simp] theorem int_bl (c : Bool) (S : Sto) : primF .int [.bl c] S = .ok (.int (if c then 1 else 0)) S := id rfl
theorem f30 {N b : Nat} (hN : N < 70000) (g : GB N S b) : Drw Qs (callF pg (n + 4) bs 30 [.ref b] S) (N + 40) S b := by
  obtain ⟨w, S1, h1, h2, h3, h4, h5⟩ := f18 (n := n + 2) (bs := S.length :: bs) (k := 5) (by omega) (by omega) (by omega) g
  have three : 3 ≤ PySem.sizeLine := by rw [PySem.sizeLine_eq]; omega
  by_cases c1 : w < 2
  · obtain ⟨d1, S2, k1, k2, k3, k4⟩ := f23 (n := n) (bs := S.length :: bs) (lo := 1) (hi := 4) (by omega) (by omega) (by omega) (by omega) h4
    obtain ⟨d2, S3, q1, q2, q3, q4⟩ := f23 (n := n) (bs := S.length :: bs) (lo := 0) (hi := 6) (by omega) (by omega) (by omega) (by omega) k3
    refine ⟨.lst true [.int w, d1, d2], S3, ?_, ⟨w, frz d1, frz d2, rfl, h2, by omega, k2, q2⟩, q3.mono (by omega), (h5.trans k4).trans q4⟩
    refine call_rt (Df := d30) rfl rfl (by decide) ?_ (Nat.le_of_eq ((h5.trans k4).trans q4).1)
    simp [d30, h1, c1, k1, q1, three]
  by_cases c2 : w = 2
  · subst c2
    obtain ⟨d1, S2, k1, k2, k3, k4⟩ := f23 (n := n) (bs := S.length :: bs) (lo := 1) (hi := 4) (by omega) (by omega) (by omega) (by omega) h4
    have hm : ∃ m : Int, 1 ≤ m ∧ m ≤ 4 ∧ ev pg (callF pg (n + 3)) (S.length :: bs) (.ite (.e (.call 20 [(.var 2), (.cst (.int 1)), (.cst (.int 4))])) (.var 2) (.cst (.int 3))) [some (.ref b), some (.int 2), some (frz d1), none] S2 = .ok (.int m) S2 := by
      have e := f20 (n := n + 2) (bs := S.length :: bs) (S := S2) (lo := 1) (hi := 4) k2.1.1
      cases hn : isNumD (frz d1) 1 4 with
      | false =>
        rw [hn] at e
        exact ⟨3, by omega, by omega, by simp [k2.1.1.2, e]⟩
      | true =>
        rw [hn] at e
        obtain ⟨v, hv, v1, v2⟩ := num_nat (by omega) hn
        rw [hv] at e ⊢
        exact ⟨v, by omega, by omega, by simp [e]⟩
    obtain ⟨m, m1, m2, em⟩ := hm
    have hk : ∃ (k : Int) (S3 : Sto), 1 ≤ k ∧ k ≤ 5 ∧ GB (N + 4) S3 b ∧ Sm b S2 S3 ∧ ev pg (callF pg (n + 3)) (S.length :: bs) (.bin .Add (.var 3) (.prim .int [(.and (.cmp .Lt (.var 3) (.cst (.int 4))) (.cmp .Eq (.call 18 [(.var 0), (.cst (.int 6))]) (.cst (.int 0))))])) [some (.ref b), some (.int 2), some (frz d1), some (.int m)] S2 = .ok (.int k) S3 := by
      by_cases c3 : m < 4
      · obtain ⟨r, S3, r1, r2, r3, r4, r5⟩ := f18 (n := n + 2) (bs := S.length :: bs) (k := 6) (by omega) (by omega) (by omega) k3
        refine ⟨m + (if (r == 0) = true then 1 else 0), S3, by split <;> omega, by split <;> omega, r4.mono (by omega), r5, ?_⟩
        simp [c3, r1]
      · exact ⟨m, S2, m1, by omega, k3.mono (by omega), .refl, by simp [c3]⟩
    obtain ⟨k, S3, kk1, kk2, kk3, kk4, ek⟩ := hk
    obtain ⟨d2, S4, q1, q2, q3, q4⟩ := f25 (n := n) (bs := S.length :: bs) (k := k) (by omega) (by omega) kk2 kk3
    have hS := ((h5.trans k4).trans kk4).trans q4
    refine ⟨.lst true [.int 2, frz d1, d2], S4, ?_, ⟨2, frz d1, frz d2, by rw [frz_lst, frzL_cons, frzL_cons, frzL_cons, frzL_nil, frz_int, k2.1.1.2], by omega, by omega, k2, q2⟩, q3.mono (by omega), hS⟩
    refine call_rt (Df := d30) rfl rfl (by decide) ?_ (Nat.le_of_eq hS.1)
    show execs pg (callF pg (n + 3)) (S.length :: bs) d30.body [some (.ref b), none, none, none] S = _
    unfold d30
    dsimp only
    have e1 : exec pg (callF pg (n + 3)) (S.length :: bs) (.asg (.nm 1) (.call 18 [(.var 0), (.cst (.int 5))])) [some (.ref b), none, none, none] S = .nx [some (.ref b), some (.int 2), none, none] S1 := by simp [h1]
    have e2 : exec pg (callF pg (n + 3)) (S.length :: bs) (.asg (.nm 2) (.call 23 [(.var 0), (.cst (.int 1)), (.cst (.int 4))])) [some (.ref b), some (.int 2), none, none] S1 = .nx [some (.ref b), some (.int 2), some (frz d1), none] S2 := by simp [k1]
    have e3 : exec pg (callF pg (n + 3)) (S.length :: bs) (.asg (.nm 3) (.ite (.e (.call 20 [(.var 2), (.cst (.int 1)), (.cst (.int 4))])) (.var 2) (.cst (.int 3)))) [some (.ref b), some (.int 2), some (frz d1), none] S2 = .nx [some (.ref b), some (.int 2), some (frz d1), some (.int m)] S2 := by
      rw [exec_asg, em, rsof_ok]
      rfl
    have e4 : exec pg (callF pg (n + 3)) (S.length :: bs) (.ret (some (.lst [(.var 1), (.var 2), (.call 25 [(.var 0), (.bin .Add (.var 3) (.prim .int [(.and (.cmp .Lt (.var 3) (.cst (.int 4))) (.cmp .Eq (.call 18 [(.var 0), (.cst (.int 6))]) (.cst (.int 0))))]))])]))) [some (.ref b), some (.int 2), some (frz d1), some (.int m)] S2 = .rt (.lst true [.int 2, frz d1, d2]) S4 := by
      rw [exec_ret, ev_lst, evs_var, ev_var]
      simp only [List.getElem?_cons_zero, List.getElem?_cons_succ, bind_ok]
      rw [evs_var, ev_var]
      simp only [List.getElem?_cons_zero, List.getElem?_cons_succ, bind_ok]
      rw [evs_call, ev_call, evs_var, ev_var]
      simp only [List.getElem?_cons_zero, List.getElem?_cons_succ, bind_ok]
      rw [evs_bin, ek]
      simp [q1, three]
    have e5 : ∀ r : List Dl.S, exec pg (callF pg (n + 3)) (S.length :: bs) (.ite (.e (.cmp .Lt (.var 1) (.cst (.int 2)))) r []) [some (.ref b), some (.int 2), none, none] S1 = .nx [some (.ref b), some (.int 2), none, none] S1 := fun r => by simp
    rw [execs_cons, e1]
    dsimp only
    rw [execs_cons, e5]
    dsimp only
    rw [execs_cons, exec_ite]
    simp only [evT_e, ev_cmp, ev_var, ev_cst, List.getElem?_cons_zero, List.getElem?_cons_succ, bind_ok, cmp_eqi, Option.map_some, ofO_some, truth_bl, rsof_ok, beq_self_eq_true, if_true]
    rw [execs_cons, e2]
    dsimp only
    rw [execs_cons, e3]
    dsimp only
    rw [execs_cons, e4]
  · obtain ⟨d1, S2, k1, k2, k3, k4⟩ := f25 (n := n) (bs := S.length :: bs) (k := 4) (by omega) (by omega) (by omega) h4
    obtain ⟨d2, S3, q1, q2, q3, q4⟩ := f23 (n := n) (bs := S.length :: bs) (lo := 0) (hi := 3) (by omega) (by omega) (by omega) (by omega) k3
    refine ⟨.lst true [.int w, d1, d2], S3, ?_, ⟨w, frz d1, frz d2, rfl, h2, by omega, k2, q2⟩, q3.mono (by omega), (h5.trans k4).trans q4⟩
    refine call_rt (Df := d30) rfl rfl (by decide) ?_ (Nat.le_of_eq ((h5.trans k4).trans q4).1)
    simp [d30, h1, c1, c2, k1, q1, three]
end Lw
end

section
set_option Elab.async false
set_option linter.all false
set_option maxRecDepth 100000
set_option maxHeartbeats 1000000
/-! M18: k01: texts of cells, of answers. -/
namespace Lw
open Dl
variable {n : Nat} {bs : List Nat} {S : Sto}
theorem snap_sh (S : Sto) : ∀ (f : Nat) (n : Nat) (d : D), shD n d = true → shD n (snapS S f d) = true ∧ toPy (snapS S f d) = toPy d
  | 0, n, d, h => ⟨h, rfl⟩
  | f + 1, n, d, h => by
    have key : ∀ (n : Nat) (xs : List D), shL n xs = true → shL n (xs.map (snapS S f)) = true ∧ toPyL (xs.map (snapS S f)) = toPyL xs := by
      intro n xs
      induction xs with
      | nil => exact fun h => ⟨h, rfl⟩
      | cons x xs ih =>
        intro h
        rw [shL.eq_def] at h
        dsimp only at h
        rw [Bool.and_eq_true] at h
        obtain ⟨h1, h2⟩ := ih h.2
        obtain ⟨k1, k2⟩ := snap_sh S f n x h.1
        rw [List.map_cons]
        refine ⟨?_, by rw [toPyL, toPyL, h2, k2]⟩
        rw [shL.eq_def]
        dsimp only
        rw [k1, h1]
        rfl
    cases d with
    | tup xs =>
      cases n with
      | zero => rw [shD.eq_def] at h; cases h
      | succ n =>
        obtain ⟨h1, h2⟩ := key n xs h
        exact ⟨h1, by show PySem.PyData.tuple (toPyL (xs.map (snapS S f))) = _; rw [h2, toPy]⟩
    | lst o xs =>
      cases n with
      | zero => rw [shD.eq_def] at h; cases h
      | succ n =>
        obtain ⟨h1, h2⟩ := key n xs h
        exact ⟨h1, by show PySem.PyData.list (toPyL (xs.map (snapS S f))) = _; rw [h2, toPy]⟩
    | dic o ks vs =>
      cases n with
      | zero => rw [shD.eq_def] at h; cases h
      | succ n =>
        have h' : (shL n ks && shL n vs && (ks.length == vs.length)) = true := h
        rw [Bool.and_eq_true, Bool.and_eq_true] at h'
        obtain ⟨h1, h2⟩ := key n vs h'.1.2
        refine ⟨?_, by show PySem.PyData.dict ((toPyL ks).zip (toPyL (vs.map (snapS S f)))) = _; rw [h2, toPy]⟩
        show (shL n ks && shL n (vs.map (snapS S f)) && (ks.length == (vs.map (snapS S f)).length)) = true
        rw [h1, h'.1.1, List.length_map]
        exact h'.2
    | ref k => cases n <;> (rw [shD.eq_def] at h; cases h)
    | _ => exact ⟨h, rfl⟩
theorem sh_sixty {k W : Nat} {d : D} (h : Rd k W d) {m : Nat} (hk : k ≤ m) : shD m d = true := by
  have := h.sh (m - k)
  rw [show k + (m - k) = m by omega] at this
  exact this
/-- the text of a cell of a text and a value -/
theorem repr_cell {k W : Nat} {s : PySem.Str} {x y : D} {q : Nat} {o : Bool} (h : Rd k W (.lst true [.str s, x])) (hk : k ≤ 50) (hw : W ≤ 600000) (hq : S[q]? = some (.lst o [.str s, y]))
    (hy : shD 59 (snapS S 7 y) = true ∧ toPy (snapS S 7 y) = toPy x) : primF .repr [.ref q] S = .ok (.str (PySem.PyData.shown (toPy (.lst true [.str s, x])))) S := by
  have e : primF .repr [.ref q] S = (match normS S (.ref q) with | some d => if (PySem.PyData.shown (toPy d)).length ≤ PySem.sizeLine then R.ok (.str (PySem.PyData.shown (toPy d))) S else .er | none => .er) := rfl
  have e1 : snapS S 8 (.ref q) = .lst false [.str s, snapS S 7 y] := by
    show (match S[q]? with | some (.lst _ xs) => D.lst false (xs.map (snapS S 7)) | some (.dic _ ks vs) => .dic false ks (vs.map (snapS S 7)) | _ => .ref q) = _
    rw [hq]
    rfl
  have e2 : normS S (.ref q) = some (.lst false [.str s, snapS S 7 y]) := by
    show (if shD 60 (.ref q) = true then some (D.ref q) else if shD 60 (snapS S 8 (.ref q)) = true then some (snapS S 8 (.ref q)) else none) = _
    rw [if_neg (by rw [shD.eq_def]; exact Bool.false_ne_true), e1, if_pos]
    show (shD 59 (.str s) && (shD 59 (snapS S 7 y) && true)) = true
    rw [hy.1]
    rfl
  have e3 : toPy (.lst false [.str s, snapS S 7 y]) = toPy (.lst true [.str s, x]) := by
    rw [toPy, toPy, toPyL, toPyL, toPyL, toPyL, toPyL, toPyL, hy.2]
  have h4 : (PySem.PyData.shown (toPy (.lst true [.str s, x]))).length ≤ PySem.sizeLine := by
    have := PySem.PyData.shown_le 25 (by omega) (toPy (.lst true [.str s, x])) h.lv
    have := h.wt
    rw [PySem.sizeLine_eq]
    omega
  rw [e, e2]
  dsimp only
  rw [e3, if_pos h4]
theorem kind_of {w : Int} {d e : D} {c : Option Nat} {x y : D} (h : Ans w d e c x y) : c = none ∨ c = some 1 ∨ c = some 2 ∨ c = some 3 ∨ c = some 4 ∨ c = some 5 := by cases h <;> simp
theorem rd_str {s : PySem.Str} (h1 : PySem.PyData.leavesShort 25 (.str s) = true) (h2 : (PySem.PyData.str s).weight ≤ 20000) : Rd 4 20000 (.str s) := ⟨fun n => by cases h : 4 + n <;> rfl, h1, h2⟩
theorem rd_kind {w : Int} {d e : D} {c : Option Nat} {x y : D} (h : Ans w d e c x y) : Rd 4 20000 (.str (kindS c)) := by
  rcases kind_of h with rfl | rfl | rfl | rfl | rfl | rfl <;> exact rd_str (by decide +kernel) (by decide +kernel)
theorem idx_lt {v : Nat} {l : List Int} (hv : v ≤ 4) (hb : isBag v (bagD l) = true) : idxB v l ≤ 84 := by
  obtain ⟨l', hl', hl2, hp, hr⟩ := bag_of hb
  have : l = l' := by
    have h1 : l.map D.int = l'.map D.int := D.tup.inj hl'
    have h2 := congrArg intsD h1
    rw [intsD_map, intsD_map] at h2
    exact Option.some.inj h2
  subst this
  have hf := bags_few v hv l.length hl2
  unfold idxB
  cases he : (bagsD v l.length).findIdx? fun z => eqD z (bagD l) with
  | none => simp
  | some j =>
    have := (List.findIdx?_eq_some_iff_getElem.mp he).1
    rw [bagsD_len] at this
    rw [Option.getD_some]
    omega
theorem rd_less {l : List Int} {a : Int} (hl : l.length ≤ 6) (hr : ∀ i, i ∈ l → 0 ≤ i ∧ i ≤ 1000) : Rd 4 20000 (lessD l a) := by
  unfold lessD
  have l1 := cut_len (l.map .int) none (some a)
  have l2 := cut_len (l.map .int) (some (a + 1)) none
  rw [List.length_map] at l1 l2
  refine (rd_tup (k := 0) (W := 12) fun x hx => ?_).mono (by omega) (by rw [List.length_append]; omega)
  have hx' : x ∈ l.map D.int := by
    rcases List.mem_append.mp hx with hx | hx
    · exact cut_mem hx
    · exact cut_mem hx
  obtain ⟨i, hi, rfl⟩ := List.mem_map.mp hx'
  exact rd_int (hr i hi).1 (hr i hi).2
theorem bag_rng {v : Nat} {l : List Int} (hb : isBag v (bagD l) = true) : l.length ≤ 6 ∧ l.Pairwise (· ≤ ·) ∧ ∀ i, i ∈ l → 0 ≤ i ∧ i < (v : Int) := by
  obtain ⟨l', hl', hl2, hp, hr⟩ := bag_of hb
  have : l = l' := by
    have h1 : l.map D.int = l'.map D.int := D.tup.inj hl'
    have h2 := congrArg intsD h1
    rw [intsD_map, intsD_map] at h2
    exact Option.some.inj h2
  subst this
  exact ⟨hl2, hp, hr⟩
theorem rd_plus {l : List Int} {i : Int} (hb : isBag 4 (bagD l) = true) (hn : isNumD (.int i) 0 3 = true) : Rd 4 20000 (plusD l i) := by
  obtain ⟨h1, h2, h3⟩ := bag_rng (v := 4) hb
  have hi : 0 ≤ i ∧ i ≤ 3 := by simpa [isNumD] using hn
  unfold plusD
  refine (rd_bag (by rw [sort_len, List.length_append]; simp; omega) fun j hj => ?_).mono (by omega) (by omega)
  rcases List.mem_append.mp (sort_mem hj) with hj | hj
  · have := h3 j hj; omega
  · rw [List.mem_singleton.mp hj]; omega
theorem ans_rd {w : Int} {d e : D} {c : Option Nat} {x y : D} (h : Ans w d e c x y) (hd : Vl d) (he : Vl e) : Rd 4 20000 x ∧ toPy y = toPy x := by
  cases h with
  | values h0 h3 _ _ hn => exact ⟨hd.2.mono (by omega) (by omega), rfl⟩
  | size h0 h2 v1 v2 _ hn => exact ⟨he.2.mono (by omega) (by omega), rfl⟩
  | bags v1 v2 s2 => exact ⟨(rd_bags v2 s2).mono (by omega) (by omega), toPy_lst _ _ _⟩
  | @count v s v1 v2 s2 =>
    have := bags_few v v2 s s2
    exact ⟨(rd_int (by omega) (by omega)).mono (by omega) (by omega), rfl⟩
  | bag2 v1 v2 _ hb => exact ⟨he.2.mono (by omega) (by omega), rfl⟩
  | idx v1 v2 hl hb =>
    have := idx_lt v2 hb
    exact ⟨(rd_int (by omega) (by omega)).mono (by omega) (by omega), rfl⟩
  | bag3 h3 h4 _ _ hb => exact ⟨hd.2.mono (by omega) (by omega), rfl⟩
  | value h3 h4 hl _ hb hn => exact ⟨he.2.mono (by omega) (by omega), rfl⟩
  | plus hl hb hn => exact ⟨rd_plus hb hn, rfl⟩
  | absent hl hb hn hi => exact ⟨he.2.mono (by omega) (by omega), rfl⟩
  | less hl hb hn hi => exact ⟨rd_less hl fun i hi => by have := (bag_rng (v := 4) hb).2.2 i hi; omega, rfl⟩
theorem rd_pair {W : Nat} {a b : D} {o : Bool} (ha : Rd 4 W a) (hb : Rd 4 W b) : Rd 5 (2 * (W + 1) + 1) (.lst o [a, b]) := by
  refine rd_lst (k := 4) (W := W) (xs := [a, b]) fun x hx => ?_
  simp at hx
  rcases hx with rfl | rfl
  · exact ha
  · exact hb
theorem plL0 : ∀ (xs : List D) (S : Sto), plantL 0 xs S = (frzL xs, S)
  | [], S => rfl
  | x :: xs, S => by
    have e : plantL 0 (x :: xs) S = ((plant 0 x S).1 :: (plantL 0 xs (plant 0 x S).2).1, (plantL 0 xs (plant 0 x S).2).2) := by rw [plantL.eq_def]
    have e2 : plant 0 x S = (frz x, S) := by rw [plant.eq_def]
    rw [e, e2, plL0 xs S]
    rfl
theorem pl1_fz {y : D} (h : frz y = y) (S : Sto) : plant 1 y S = (y, S) := by
  cases y with
  | tup xs =>
    show (D.tup (plantL 0 xs S).1, (plantL 0 xs S).2) = _
    rw [plL0]
    exact congrArg (fun z => (z, S)) h
  | lst o xs =>
    cases o with
    | true => cases h
    | false => exact congrArg (fun z => (z, S)) h
  | dic o ks xs =>
    cases o with
    | true => cases h
    | false => exact congrArg (fun z => (z, S)) h
  | set o xs =>
    cases o with
    | true => cases h
    | false => exact congrArg (fun z => (z, S)) h
  | ins o c xs =>
    cases o with
    | true => cases h
    | false => exact congrArg (fun z => (z, S)) h
  | _ => exact congrArg (fun z => (z, S)) h
theorem pl2_fz {y : D} {s : PySem.Str} (h : frz y = y) (S : Sto) : plant 2 (.lst true [.str s, y]) S = (.ref S.length, S ++ [.lst true [.str s, y]]) := by
  have e : plant 2 (.lst true [.str s, y]) S = (.ref (plant 1 y S).2.length, (plant 1 y S).2 ++ [.lst true [.str s, (plant 1 y S).1]]) := rfl
  rw [e, pl1_fz h]
theorem pl2_bags {v k : Nat} {s : PySem.Str} (S : Sto) : plant 2 (.lst true [.str s, .lst true (bagsD v k)]) S = (.ref (S.length + 1), S ++ [.lst true (bagsD v k), .lst true [.str s, .ref S.length]]) := by
  have e : plant 2 (.lst true [.str s, .lst true (bagsD v k)]) S = (.ref (plant 1 (.lst true (bagsD v k)) S).2.length, (plant 1 (.lst true (bagsD v k)) S).2 ++ [.lst true [.str s, (plant 1 (.lst true (bagsD v k)) S).1]]) := rfl
  rw [e, pl_all]
  simp
end Lw
end

section
set_option Elab.async false
set_option linter.all false
set_option maxRecDepth 100000
set_option maxHeartbeats 1000000
/-! M19: k01: the answers are right. -/
namespace Lw
open Dl
variable {n : Nat} {bs : List Nat} {S : Sto}
theorem ans_same {w : Int} {d e : D} {c : Option Nat} {x y : D} (h : Ans w d e c x y) : (x = y ∧ frz y = y ∧ (c ≠ none ∨ (∃ i, y = .int i) ∨ ∃ xs, y = .tup xs)) ∨
    ∃ v s, v ≤ 4 ∧ s ≤ 6 ∧ c = none ∧ x = .lst false (bagsD v s) ∧ y = .lst true (bagsD v s) := by
  obtain ⟨z1, z2⟩ := ans_frz h
  cases h with
  | values h0 h3 hd he hn => exact .inl ⟨rfl, z1, .inl (by simp)⟩
  | size h0 h2 v1 v2 he hn => exact .inl ⟨rfl, z2, .inl (by simp)⟩
  | bags v1 v2 s2 => exact .inr ⟨_, _, v2, s2, rfl, rfl, rfl⟩
  | count v1 v2 s2 => exact .inl ⟨rfl, rfl, .inr (.inl ⟨_, rfl⟩)⟩
  | bag2 v1 v2 he hb => exact .inl ⟨rfl, z2, .inl (by simp)⟩
  | idx v1 v2 hl hb => exact .inl ⟨rfl, rfl, .inr (.inl ⟨_, rfl⟩)⟩
  | bag3 h3 h4 hd he hb => exact .inl ⟨rfl, z1, .inl (by simp)⟩
  | value h3 h4 hl he hb hn => exact .inl ⟨rfl, z2, .inl (by simp)⟩
  | plus hl hb hn => exact .inl ⟨rfl, frz_bag _, .inr (.inr ⟨_, rfl⟩)⟩
  | absent hl hb hn hi => exact .inl ⟨rfl, rfl, .inl (by simp)⟩
  | @less l i hl hb hn hi =>
    refine .inl ⟨rfl, ?_, .inr (.inr ⟨_, rfl⟩)⟩
    unfold lessD
    rw [frz_tup, frzL_of]
    intro x hx
    have hx' : x ∈ l.map D.int := by
      rcases List.mem_append.mp hx with hx | hx
      · exact cut_mem hx
      · exact cut_mem hx
    obtain ⟨i, hi, rfl⟩ := List.mem_map.mp hx'
    rfl
@[simp] theorem cmp_eqs (x y : PySem.Str) (S : Sto) : cmpF .Eq (.str x) (.str y) S = some (decide (x = y)) := id rfl
@[simp] theorem cmp_nes (x y : PySem.Str) (S : Sto) : cmpF .NotEq (.str x) (.str y) S = some (!decide (x = y)) := id rfl
theorem kind_told {c : Option Nat} (h : c = none ∨ c = some 1 ∨ c = some 2 ∨ c = some 3 ∨ c = some 4 ∨ c = some 5) : decide (kindS c = sTold) = decide (c = none) := by
  rcases h with rfl | rfl | rfl | rfl | rfl | rfl <;> decide +kernel
theorem sub_ref0 {q : Nat} {o : Bool} {x y : D} (h : S[q]? = some (.lst o [x, y])) : subF (.ref q) (.int 0) S = .ok x S := by
  have e : look S (.ref q) = some (.lst o [x, y]) := h
  unfold subF
  rw [e]
  rfl
theorem sub_ref1 {q : Nat} {o : Bool} {x y : D} (h : S[q]? = some (.lst o [x, y])) : subF (.ref q) (.int 1) S = .ok y S := by
  have e : look S (.ref q) = some (.lst o [x, y]) := h
  unfold subF
  rw [e]
  rfl
theorem mut_app {q : Nat} {o : Bool} {xs : List D} {x : D} (h : S[q]? = some (.lst o xs)) (hl : xs.length < PySem.sizeLine) (hok : okB bs q x = true) : mutF .append bs (.ref q) [x] S = .ok .non (S.set q (.lst true (xs ++ [x]))) := by
  unfold mutF
  dsimp only
  rw [h]
  dsimp only
  rw [if_pos ⟨hl, hok⟩]
theorem ans_pl {w : Int} {d e : D} {c : Option Nat} {x y : D} (h : Ans w d e c x y) (hc : c ≠ none) : PlD y := by
  cases h with
  | values h0 h3 hd he hn => exact hd.1
  | size h0 h2 v1 v2 he hn => exact he.1
  | bags v1 v2 s2 => exact absurd rfl hc
  | count v1 v2 s2 => exact absurd rfl hc
  | bag2 v1 v2 he hb => exact he.1
  | idx v1 v2 hl hb => exact absurd rfl hc
  | bag3 h3 h4 hd he hb => exact hd.1
  | value h3 h4 hl he hb hn => exact he.1
  | plus hl hb hn => exact absurd rfl hc
  | absent hl hb hn hi => exact pl_int _
  | less hl hb hn hi => exact absurd rfl hc
theorem ty_pl {d : D} (h : PlD d) (S : Sto) : ∃ t, tyD S d = some t := by
  obtain ⟨⟨t, ht⟩, _⟩ := h
  cases d <;> first | (cases ht; done) | exact ⟨_, rfl⟩
theorem leave_bl {b : Nat} (c : Bool) (S : Sto) : leave b (.bl c) S = some (.bl c, S.take b) := by
  unfold leave
  by_cases h : S.length ≤ b
  · rw [if_pos h, List.take_of_length_le h]
  · rw [if_neg h]
    rfl
/-- the tests of d31, once what was told lies in the cell m -/
theorem tail31 {b m : Nat} {w : Int} {d1 d2 x y : D} {q : D} {nm : Bool} {c : Option Nat} {X Y : PySem.Str} {S2 S3 : Sto} {fr : List Nat} {o : Bool} {k : D}
    (ha : Ans w d1 d2 c x y) (h2 : S2[m]? = some (.lst o [.str (kindS c), k])) (hr : primF .repr [.ref m] S2 = .ok (.str X) S2) (hr2 : ∀ S, primF .repr [.lst true [d1, d2]] S = .ok (.str Y) S)
    (hr3 : ∀ S, primF .repr [.lst true [.str (kindS c), y]] S = .ok (.str X) S)
    (hm : exec pg (callF pg (n + 8)) fr (.ite (.and (.e (.prim (.isi [.list]) [(.sub (.var 3) (.cst (.int 1)))])) (.e (.cmp .Eq (.sub (.var 3) (.cst (.int 0))) (.cst (.str (PySem.Str.ofString "told")))))) [.expr (.mut .append (.sub (.var 3) (.cst (.int 1))) [(.cst (.non))])] []) [some (.ref b), some q, some (.str Y), some (.ref m), some (.int w), some d1, some d2, some (.str X), some (.bl nm)] S2 = .nx [some (.ref b), some q, some (.str Y), some (.ref m), some (.int w), some d1, some d2, some (.str X), some (.bl nm)] S3) :
    execs pg (callF pg (n + 8)) fr (d31.body.drop 4) [some (.ref b), some q, some (.str Y), some (.ref m), some (.int w), some d1, some d2, some (.str X), some (.bl nm)] S2 = .rt (.bl true) S3 := by
  obtain ⟨z1, z2⟩ := ans_frz ha
  have two : 2 ≤ PySem.sizeLine := by rw [PySem.sizeLine_eq]; omega
  have f := fun (S : Sto) (nm : Bool) => f29 (n := n) (bs := fr) (S := S) (nm := nm) ha
  unfold d31
  simp only [List.drop_succ_cons, List.drop_zero]
  rw [execs_cons, exec_ite]
  have e1 : evT pg (callF pg (n + 8)) fr (.or (.e (.cmp .NotEq (.prim .repr [(.var 3)]) (.var 7))) (.e (.cmp .NotEq (.prim .repr [(.lst [(.var 5), (.var 6)])]) (.var 2)))) [some (.ref b), some q, some (.str Y), some (.ref m), some (.int w), some d1, some d2, some (.str X), some (.bl nm)] S2 = .ok false S2 := by
    simp [hr, hr2, two]
  rw [e1, rsof_ok, if_neg Bool.false_ne_true, execs_nil]
  dsimp only
  rw [execs_cons, hm]
  simp [z1, z2, f, hr3]
theorem f31 {N b : Nat} {w : Int} {d1 d2 : D} (hN : N < 90000) (h0 : 0 ≤ w) (h4 : w ≤ 4) (v1 : Vl d1) (v2 : Vl d2) (g : GB N S b) :
    ∃ S', callF pg (n + 9) bs 31 [.ref b, .lst false [.int w, d1, d2]] S = .ok (.bl true) S' ∧ GB (N + 1) S' b ∧ Sm b S S' := by
  obtain ⟨c, x, y, ha⟩ := ans_ex h0 h4 v1.1 v2.1
  obtain ⟨r, S1, h1, h2, h3, hg, hs⟩ := f18 (n := n + 7) (bs := S.length :: bs) (k := 2) (by omega) (by omega) (by omega) g
  obtain ⟨hx, hxy⟩ := ans_rd ha v1 v2
  obtain ⟨z1, z2⟩ := ans_frz ha
  have two : 2 ≤ PySem.sizeLine := by rw [PySem.sizeLine_eq]; omega
  have hp := rd_pair (o := true) (rd_kind ha) hx
  have hq := rd_pair (o := true) (v1.2.mono (k2 := 4) (W2 := 20000) (by omega) (by omega)) (v2.2.mono (k2 := 4) (W2 := 20000) (by omega) (by omega))
  have r1 := fun S : Sto => repr_ok hp (by omega) (by omega) S
  have r2 := fun S : Sto => repr_ok hq (by omega) (by omega) S
  have f26' := f26 (n := n + 5) (bs := S.length :: bs) (S := S) ha
  have f29' := fun nm => f29 (n := n) (bs := S.length :: bs) (S := S1) (nm := nm) ha
  generalize hX : PySem.PyData.shown (toPy (.lst true [.str (kindS c), x])) = X at r1
  generalize hY : PySem.PyData.shown (toPy (.lst true [d1, d2])) = Y at r2
  refine ⟨S1, ?_, hg, hs⟩
  have hlen : S1.length = S.length := hs.1
  have e1 : exec pg (callF pg (n + 8)) (S.length :: bs) (.asg (.tup [(.nm 4), (.nm 5), (.nm 6)]) (.var 1)) [some (.ref b), some (.lst false [.int w, d1, d2]), none, none, none, none, none, none, none] S = .nx [some (.ref b), some (.lst false [.int w, d1, d2]), none, none, some (.int w), some d1, some d2, none, none] S := by
    rw [exec_asg, ev_var]
    simp only [List.getElem?_cons_zero, List.getElem?_cons_succ, rsof_ok, frz_lst, frzL_cons, frzL_nil, frz_int, z1, z2]
    rfl
  have e2 : exec pg (callF pg (n + 8)) (S.length :: bs) (.par 7 8 (.prim .repr [(.call 26 [(.var 4), (.var 5), (.var 6)])]) (.cmp .Eq (.call 18 [(.var 0), (.cst (.int 2))]) (.cst (.int 0)))) [some (.ref b), some (.lst false [.int w, d1, d2]), none, none, some (.int w), some d1, some d2, none, none] S = .nx [some (.ref b), some (.lst false [.int w, d1, d2]), none, none, some (.int w), some d1, some d2, some (.str X), some (.bl (r == 0))] S1 := by
    simp [z1, z2, f26', r1, h1]
  have e3 : exec pg (callF pg (n + 8)) (S.length :: bs) (.asg (.nm 2) (.prim .repr [(.lst [(.var 5), (.var 6)])])) [some (.ref b), some (.lst false [.int w, d1, d2]), none, none, some (.int w), some d1, some d2, some (.str X), some (.bl (r == 0))] S1 = .nx [some (.ref b), some (.lst false [.int w, d1, d2]), some (.str Y), none, some (.int w), some d1, some d2, some (.str X), some (.bl (r == 0))] S1 := by
    simp [two, r2]
  have e4 : exec pg (callF pg (n + 8)) (S.length :: bs) (.asg (.nm 3) (.pl 2 (.call 29 [(.var 4), (.var 5), (.var 6), (.var 8)]))) [some (.ref b), some (.lst false [.int w, d1, d2]), some (.str Y), none, some (.int w), some d1, some d2, some (.str X), some (.bl (r == 0))] S1 = .nx [some (.ref b), some (.lst false [.int w, d1, d2]), some (.str Y), some (frz (plant 2 (.lst true [.str (kindS c), y]) S1).1), some (.int w), some d1, some d2, some (.str X), some (.bl (r == 0))] (plant 2 (.lst true [.str (kindS c), y]) S1).2 := by
    simp [z1, z2, f29']
  have fin : ∀ (m : Nat) (E E2 : Sto) (k : D), plant 2 (.lst true [.str (kindS c), y]) S1 = (.ref m, S1 ++ E) → (S1 ++ E)[m]? = some (.lst true [.str (kindS c), k]) → shD 59 (snapS (S1 ++ E) 7 k) = true ∧ toPy (snapS (S1 ++ E) 7 k) = toPy x → (∀ S, primF .repr [.lst true [.str (kindS c), y]] S = .ok (.str X) S) →
      exec pg (callF pg (n + 8)) (S.length :: bs) (.ite (.and (.e (.prim (.isi [.list]) [(.sub (.var 3) (.cst (.int 1)))])) (.e (.cmp .Eq (.sub (.var 3) (.cst (.int 0))) (.cst (.str (PySem.Str.ofString "told")))))) [.expr (.mut .append (.sub (.var 3) (.cst (.int 1))) [(.cst (.non))])] []) [some (.ref b), some (.lst false [.int w, d1, d2]), some (.str Y), some (.ref m), some (.int w), some d1, some d2, some (.str X), some (.bl (r == 0))] (S1 ++ E) = .nx [some (.ref b), some (.lst false [.int w, d1, d2]), some (.str Y), some (.ref m), some (.int w), some d1, some d2, some (.str X), some (.bl (r == 0))] (S1 ++ E2) →
      callF pg (n + 9) bs 31 [.ref b, .lst false [.int w, d1, d2]] S = .ok (.bl true) S1 := by
    intro m E E2 k hpl hc hsn hr3 hm
    have hr := repr_cell hp (by omega) (by omega) hc hsn
    rw [hX] at hr
    have ht := tail31 (q := .lst false [.int w, d1, d2]) ha hc hr r2 hr3 hm
    refine call_rt2 (Df := d31) (S2 := S1 ++ E2) (v := .bl true) rfl rfl (by decide) ?_ (by rw [leave_bl, ← hlen, List.take_left' rfl])
    rw [hpl] at e4
    show execs pg (callF pg (n + 8)) (S.length :: bs) [_, _, _, _, _, _, _] [some (.ref b), some (.lst false [.int w, d1, d2]), none, none, none, none, none, none, none] S = _
    rw [execs_cons, e1]
    dsimp only
    rw [execs_cons, e2]
    dsimp only
    rw [execs_cons, e3]
    dsimp only
    rw [execs_cons, e4]
    exact ht
  rcases ans_same ha with ⟨rfl, fz, hk⟩ | ⟨v, s, hv, hs6, rfl, rfl, rfl⟩
  · have hc : (S1 ++ [D.lst true [.str (kindS c), x]])[S1.length]? = some (.lst true [.str (kindS c), x]) := by simp
    refine fin _ _ [D.lst true [.str (kindS c), x]] x (pl2_fz fz S1) hc ?_ r1 ?_
    · exact snap_sh _ 7 59 x (sh_sixty hx (by omega))
    · have kt := kind_told (kind_of ha)
      rcases hk with hk | ⟨i, rfl⟩ | ⟨xs, rfl⟩
      · have kf : kindS c ≠ sTold := by simpa [hk] using kt
        obtain ⟨t, htt⟩ : ∃ t, tyD (S1 ++ [D.lst true [.str (kindS c), x]]) x = some t := ty_pl (ans_pl ha hk) _
        have hi : primF (.isi [.list]) [x] (S1 ++ [D.lst true [.str (kindS c), x]]) = .ok (.bl (subTy t .list)) (S1 ++ [D.lst true [.str (kindS c), x]]) := by
          show (match tyD (S1 ++ [D.lst true [.str (kindS c), x]]) x with | some t => R.ok (D.bl ([Ty.list].any fun u => subTy t u)) (S1 ++ [D.lst true [.str (kindS c), x]]) | none => .er) = _
          rw [htt]
          simp
        cases subTy t .list <;> simp [sub_ref0 hc, sub_ref1 hc, hi, kf]
      · have hi : primF (.isi [.list]) [.int i] (S1 ++ [D.lst true [.str (kindS c), .int i]]) = .ok (.bl false) (S1 ++ [D.lst true [.str (kindS c), .int i]]) := rfl
        simp [sub_ref1 hc, hi]
      · have hi : primF (.isi [.list]) [.tup xs] (S1 ++ [D.lst true [.str (kindS c), .tup xs]]) = .ok (.bl false) (S1 ++ [D.lst true [.str (kindS c), .tup xs]]) := rfl
        simp [sub_ref1 hc, hi]
  · have hc : (S1 ++ [D.lst true (bagsD v s), .lst true [.str (kindS none), .ref S1.length]])[S1.length + 1]? = some (.lst true [.str (kindS none), .ref S1.length]) := by simp
    have hc0 : (S1 ++ [D.lst true (bagsD v s), .lst true [.str (kindS none), .ref S1.length]])[S1.length]? = some (.lst true (bagsD v s)) := by simp
    have hb := rd_bags (o := false) hv hs6
    have hb2 := rd_bags (o := true) hv hs6
    refine fin _ _ [D.lst true (bagsD v s ++ [.non]), .lst true [.str (kindS none), .ref S1.length]] (.ref S1.length) (pl2_bags S1) hc ?_ ?_ ?_
    · have e : snapS (S1 ++ [D.lst true (bagsD v s), .lst true [.str (kindS none), .ref S1.length]]) 7 (.ref S1.length) = snapS (S1 ++ [D.lst true (bagsD v s), .lst true [.str (kindS none), .ref S1.length]]) 7 (.lst false (bagsD v s)) := by
        show (match (S1 ++ [D.lst true (bagsD v s), .lst true [.str (kindS none), .ref S1.length]])[S1.length]? with | some (.lst _ xs) => D.lst false (xs.map (snapS (S1 ++ [D.lst true (bagsD v s), .lst true [.str (kindS none), .ref S1.length]]) 6)) | some (.dic _ ks vs) => .dic false ks (vs.map (snapS (S1 ++ [D.lst true (bagsD v s), .lst true [.str (kindS none), .ref S1.length]]) 6)) | _ => .ref S1.length) = _
        rw [hc0]
        rfl
      rw [e]
      exact snap_sh _ 7 59 _ (sh_sixty hb (by omega))
    · intro S
      have := repr_ok (rd_pair (o := true) (rd_kind ha) (hb2.mono (k2 := 4) (W2 := 20000) (by omega) (by omega))) (by omega) (by omega) S
      rw [this, ← hX]
      congr 2
    · have hi : primF (.isi [.list]) [.ref S1.length] (S1 ++ [D.lst true (bagsD v s), .lst true [.str (kindS none), .ref S1.length]]) = .ok (.bl true) (S1 ++ [D.lst true (bagsD v s), .lst true [.str (kindS none), .ref S1.length]]) := by
        show (match tyD (S1 ++ [D.lst true (bagsD v s), .lst true [.str (kindS none), .ref S1.length]]) (.ref S1.length) with | some t => R.ok (D.bl ([Ty.list].any fun u => subTy t u)) _ | none => .er) = _
        have : tyD (S1 ++ [D.lst true (bagsD v s), .lst true [.str (kindS none), .ref S1.length]]) (.ref S1.length) = some .list := by
          unfold tyD look
          dsimp only
          rw [hc0]
        rw [this]
        rfl
      have hcell : isCell (S1 ++ [D.lst true (bagsD v s), .lst true [.str (kindS none), .ref S1.length]]) (.ref S1.length) = true := by
        unfold isCell
        dsimp only
        rw [hc0]
      have hmut : mutF .append (S.length :: bs) (.ref S1.length) [.non] (S1 ++ [D.lst true (bagsD v s), .lst true [.str (kindS none), .ref S1.length]]) = .ok .non (S1 ++ [D.lst true (bagsD v s ++ [.non]), .lst true [.str (kindS none), .ref S1.length]]) := by
        have okn : okB (S.length :: bs) S1.length .non = true := by
          unfold okB
          rw [List.all_eq_true]
          intro β _
          show (decide (β ≤ S1.length) || true) = true
          rw [Bool.or_true]
        have hf := bags_few v hv s hs6
        rw [mut_app hc0 (by rw [bagsD_len, PySem.sizeLine_eq]; omega) okn]
        simp
      have kf : kindS none = PySem.Str.ofString "told" := rfl
      have g0 := sub_ref0 hc
      have g1 := sub_ref1 hc
      rw [kf] at hi hcell hmut g0 g1 ⊢
      simp [g0, g1, hi, hcell, hmut]
end Lw
end

section
set_option Elab.async false
set_option linter.all false
set_option maxRecDepth 100000
set_option maxHeartbeats 1000000
/-! M20: k01: facts of the bags, by counting; the script's numbers. -/
namespace Lw
open Dl
variable {n : Nat} {bs : List Nat} {S : Sto}
def chk1 (v s : Nat) (l : List Int) (a : Nat) : Bool := isBag v (bagD l) && isBag 4 (bagD l) && (idxB v l == a) && (decide (6 ≤ s) || [(0 : Int), 1, 2, 3].all fun i => isBag 4 (plusD l i) && (sortI (l ++ [i])).contains i &&
  okD 60 (lessD (sortI (l ++ [i])) (atI (sortI (l ++ [i])) i)) && eqD (lessD (sortI (l ++ [i])) (atI (sortI (l ++ [i])) i)) (bagD l))
def chk (v s : Nat) : Bool := decide (0 < (bagsL v s).length) && (bagsL v s).zipIdx.all fun p => chk1 v s p.1 p.2
theorem chk_ok : ∀ v, v ≤ 4 → 1 ≤ v → ∀ s, s ≤ 6 → chk v s = true := by decide +kernel
theorem chk_at {v s a : Nat} {l : List Int} (hv : v ≤ 4) (h1 : 1 ≤ v) (hs : s ≤ 6) (hl : (bagsL v s)[a]? = some l) : chk1 v s l a = true := by
  have h := chk_ok v hv h1 s hs
  unfold chk at h
  rw [Bool.and_eq_true, List.all_eq_true] at h
  exact h.2 (l, a) (List.mk_mem_zipIdx_iff_getElem?.mpr hl)
theorem bags_pos {v s : Nat} (hv : v ≤ 4) (h1 : 1 ≤ v) (hs : s ≤ 6) : 0 < (bagsL v s).length := by
  have h := chk_ok v hv h1 s hs
  unfold chk at h
  rw [Bool.and_eq_true] at h
  exact of_decide_eq_true h.1
theorem at_ix {xs : List D} {a : Nat} {S : Sto} {o : Bool} {d : D} (h : xs[a]? = some d) : subF (.lst o xs) (.int a) S = .ok d S := by
  have hl : a < xs.length := (List.getElem?_eq_some_iff.mp h).1
  have e : subF (.lst o xs) (.int a) S = R.ofO (L2.atI xs a) S := rfl
  rw [e]
  unfold L2.atI L2.ixN
  rw [if_pos (by omega), if_pos (by omega)]
  show R.ofO (xs[((a : Int)).toNat]?) S = _
  rw [Int.toNat_natCast, h]
  rfl
theorem cut_ints (l : List Int) (lo hi : Option Int) : ∃ m : List Int, cutD (l.map .int) lo hi = m.map .int := by
  unfold cutD
  rw [List.length_map, ← List.map_drop, ← List.map_take]
  exact ⟨_, rfl⟩
theorem f16 {ns : List Int} {k : Nat} (hk : k ≤ 100) : ∃ i : Int, callF pg (n + 1) bs 16 [.lst false (ns.map .int), .int k] S = .ok (.int i) S := by
  by_cases h : k < ns.length
  · refine ⟨ns[k], ?_⟩
    refine call_rt (Df := d16) rfl rfl (by decide) ?_ (Nat.le_refl _)
    have e : subF (.lst false (ns.map .int)) (.int k) S = .ok (.int ns[k]) S := at_ix (by rw [List.getElem?_map, List.getElem?_eq_getElem h]; rfl)
    have hd : decide ((k : Int) < (ns.length : Int)) = true := by simpa using h
    simp [d16, e, h]
  · obtain ⟨m, hm⟩ := cut_ints ns none (some 1)
    refine ⟨5003 * k + m.sum.fmod 1000081, ?_⟩
    refine call_rt (Df := d16) rfl rfl (by decide) ?_ (Nat.le_refl _)
    have e1 : slcF (.lst false (ns.map .int)) none (some 1) S = .ok (.lst true (m.map .int)) S := by rw [← hm]; rfl
    have e2 : primF .sum [.lst true (m.map .int)] S = .ok (.int m.sum) S := by
      show (match (kids S (.lst true (m.map .int))).bind intsD with | some l => R.ok (D.int l.sum) S | none => .er) = _
      rw [kids_lst, Option.bind_some, intsD_map]
    have l1 : (5003 : Int).natAbs.log2 + (k : Int).natAbs.log2 < 1000000 := by
      have := log2_le (5003 : Int).natAbs 24 (by decide) (by omega)
      have := log2_le (k : Int).natAbs 20 (by omega) (by omega)
      omega
    have m1 : binF .Mult (.int 5003) (.int k) S = .ok (.int (5003 * k)) S := by rw [bin_mul, if_pos l1]
    have m2 : binF .Mod (.int m.sum) (.int 1000081) S = .ok (.int (m.sum.fmod 1000081)) S := by rw [bin_mod, if_pos (by omega)]
    simp [d16, e1, e2, h, m1, m2, -bin_mul, -bin_mod]
theorem f17 {i : Int} : ∃ a f m, callF pg (n + 1) bs 17 [.int i] S = .ok (boxD a f m 0) S ∧ 0 ≤ a ∧ 0 ≤ m ∧ m < 2147483648 := by
  have four : 4 ≤ PySem.sizeLine := by rw [PySem.sizeLine_eq]; omega
  have h1 := Int.fmod_nonneg_of_pos (if i < 0 then -i else i) (show (0 : Int) < 2147483629 by omega)
  have h2 := Int.fmod_lt_of_pos (if i < 0 then -i else i) (show (0 : Int) < 2147483629 by omega)
  refine ⟨if i < 0 then -i else i, decide ((10 : Int) ^ 18 ≤ if i < 0 then -i else i), (if i < 0 then -i else i).fmod 2147483629, ?_, by split <;> omega, h1, by omega⟩
  refine call_rt (Df := d17) rfl rfl (by decide) ?_ (Nat.le_refl _)
  have p1 : binF .Pow (.int 10) (.int 18) S = .ok (.int ((10 : Int) ^ 18)) S := by rw [bin_pow, if_pos (by decide)]; rfl
  have m1 : binF .Mod (.int (if i < 0 then -i else i)) (.int 2147483629) S = .ok (.int ((if i < 0 then -i else i).fmod 2147483629)) S := by rw [bin_mod, if_pos (by omega)]
  generalize hz : (if i < 0 then -i else i) = z at m1 ⊢
  have pa : primF .abs [.int i] S = .ok (.int z) S := by rw [prim_abs, hz]
  have pi : primF .int [.int z] S = .ok (.int z) S := rfl
  have pg1 : cmpF .GtE (.int z) (.int ((10 : Int) ^ 18)) S = some (decide ((10 : Int) ^ 18 ≤ z)) := rfl
  simp only [d17, execs_cons, execs_nil, exec_ret, ev_lst, evs_prim, ev_prim, evs_var, ev_var, List.map_cons, List.map_nil, List.cons_append, List.nil_append, List.getElem?_cons_zero, bind_ok, evs_nil, pa, evs_cmp, ev_cmp, ev_cst, evs_cst, ev_bin, p1, pg1, Option.map_some, ofO_some, evs_bin, pi, m1]
  simp [four, boxD]
end Lw
end

section
set_option Elab.async false
set_option linter.all false
set_option maxRecDepth 100000
set_option maxHeartbeats 1000000
/-! M21: k01: there and back. -/
namespace Lw
open Dl
variable {n : Nat} {bs : List Nat} {S : Sto}
abbrev body32 : List Dl.S := [.par 6 7 (.sub (.lst [(.cst (.int 0)), (.bin .Sub (.prim .len [(.var 3)]) (.cst (.int 1))), (.call 18 [(.var 0), (.prim .len [(.var 3)])])]) (.bin .Mod (.var 4) (.cst (.int 3)))) (.call 18 [(.var 0), (.cst (.int 4))]), .asg (.nm 5) (.call 14 [(.sub (.var 3) (.var 6)), (.var 7)]), .ite (.or (.e (.cmp .NotEq (.prim .repr [(.call 12 [(.var 1), (.sub (.var 3) (.var 6))])]) (.prim .repr [(.var 6)]))) (.e (.cmp .NotEq (.prim .repr [(.var 5)]) (.prim .repr [(.prim .tuple [(.prim .sorted [(.bin .Add (.prim .list [(.sub (.var 3) (.var 6))]) (.lst [(.var 7)]))])])])))) [.ret (some (.cst (.bl false)))] [], .ite (.and (.e (.cmp .Lt (.var 2) (.cst (.int 6)))) (.e (.cmp .NotEq (.call 15 [(.var 5), (.var 7)]) (.sub (.var 3) (.var 6))))) [.ret (some (.cst (.bl false)))] []]
def inv32 (v s b N : Nat) (S : Sto) : Nat → Env → Sto → Prop := fun k σ S' => (∃ w4 w5 w6 w7, σ = [some (.ref b), some (.int v), some (.int s), some (.lst false (bagsD v s)), w4, w5, w6, w7]) ∧ GB (N + 2 * k) S' b ∧ Sm b S S'
theorem norm_ok {d : D} (h : okD 60 d = true) (S : Sto) : norm S d = some d := by
  unfold norm
  rw [if_pos h]
theorem cmp_ned {d e : D} {S : Sto} {xs ys : List D} (hd : d = .tup xs) (he : e = .tup ys) (h : okD 60 d = true) (k : okD 60 e = true) : cmpF .NotEq d e S = some (!eqD d e) := by
  subst hd he
  show (match norm S (.tup xs), norm S (.tup ys) with | some x, some y => some (!eqD x y) | _, _ => none) = _
  rw [norm_ok h, norm_ok k]
theorem num3 {i : Int} (h0 : 0 ≤ i) (h : i < 4) : isNumD (.int i) 0 3 = true := by simp [isNumD]; omega
theorem ok_bag (l : List Int) : okD 60 (bagD l) = true := okL_ints 59 l
theorem step32 {v s b N k : Nat} (hN : N < 90000) (hv : v ≤ 4) (h1 : 1 ≤ v) (hs : s ≤ 6) {fr : List Nat} (hk4 : k < 4) (x : D) (σ : Env) (S' : Sto) (hx : (rngL 0 4)[k]? = some x) (hP : inv32 v s b N S k σ S') :
    ∃ σ1 σ' S2, asgV (.nm 4) x σ S' = some σ1 ∧ execs pg (callF pg (n + 6)) fr body32 σ1 S' = .nx σ' S2 ∧ inv32 v s b N S (k + 1) σ' S2 := by
  obtain ⟨⟨w4, w5, w6, w7, rfl⟩, hg, hsm⟩ := hP
  have hxk : x = .int k := by
    unfold rngL at hx
    rw [List.getElem?_map, List.getElem?_range (by omega)] at hx
    simp at hx
    exact hx.symm
  subst hxk
  have hpos := bags_pos hv h1 hs
  have hfew := bags_few v hv s hs
  obtain ⟨r, S1, r1, r2, r3, g1, s1⟩ := f18 (n := n + 5) (bs := fr) (k := ((bagsL v s).length : Int)) (by omega) (by omega) (by omega) hg
  obtain ⟨i, S2, i1, i2, i3, g2, s2⟩ := f18 (n := n + 5) (bs := fr) (k := 4) (by omega) (by omega) (by omega) g1
  -- the place
  obtain ⟨a, ha, ea⟩ : ∃ a : Nat, a < (bagsL v s).length ∧ subF (.lst true [.int 0, .int (((bagsL v s).length : Int) - 1), .int r]) (.int (Int.fmod k 3)) S1 = .ok (.int a) S1 := by
    rcases (show k = 0 ∨ k = 1 ∨ k = 2 ∨ k = 3 by omega) with rfl | rfl | rfl | rfl
    · exact ⟨0, hpos, rfl⟩
    · refine ⟨(bagsL v s).length - 1, by omega, ?_⟩
      rw [show (((bagsL v s).length - 1 : Nat) : Int) = ((bagsL v s).length : Int) - 1 by omega]
      rfl
    · refine ⟨r.toNat, by omega, ?_⟩
      rw [Int.toNat_of_nonneg r2]
      rfl
    · exact ⟨0, hpos, rfl⟩
  obtain ⟨l, hl⟩ : ∃ l, (bagsL v s)[a]? = some l := ⟨_, List.getElem?_eq_getElem ha⟩
  have hc := chk_at hv h1 hs hl
  unfold chk1 at hc
  rw [Bool.and_eq_true, Bool.and_eq_true, Bool.and_eq_true] at hc
  obtain ⟨⟨⟨c1, c2⟩, c3⟩, c4⟩ := hc
  have c3' : idxB v l = a := by simpa using c3
  have hsub : ∀ S, subF (.lst false (bagsD v s)) (.int a) S = .ok (bagD l) S := fun S => at_ix (by unfold bagsD; rw [List.getElem?_map, hl]; rfl)
  obtain ⟨q1, q2, q3⟩ := bag_rng (v := 4) c2
  have hn := num3 i2 i3
  have e14 := f14c (n := n) (bs := fr) (S := S2) (l := l) (i := i) (by omega) c2 hn
  have e12 := f12c (n := n + 1) (bs := fr) (S := S2) ⟨h1, hv⟩ c1
  rw [c3'] at e12
  have ra : ∀ S, primF .repr [.int a] S = .ok (.str (PySem.PyData.shown (toPy (.int a)))) S := repr_ok (rd_int (i := (a : Int)) (by omega) (by omega)) (by omega) (by omega)
  have rp : ∀ S, primF .repr [plusD l i] S = .ok (.str (PySem.PyData.shown (toPy (plusD l i)))) S := repr_ok (rd_plus c2 hn) (by omega) (by omega)
  have one : 1 ≤ PySem.sizeLine := by rw [PySem.sizeLine_eq]; omega
  have three : 3 ≤ PySem.sizeLine := by rw [PySem.sizeLine_eq]; omega
  have m1 : binF .Mod (.int k) (.int 3) S1 = .ok (.int (Int.fmod k 3)) S1 := by rw [bin_mod, if_pos (by omega)]
  have e2 : binF .Add (.lst true (l.map .int)) (.lst true [.int i]) S2 = .ok (.lst true (l.map .int ++ [.int i])) S2 := add_lst _ _ _ _ _ (by rw [List.length_map, PySem.sizeLine_eq]; simp; omega)
  have e3 : primF .sorted [.lst true (l.map .int ++ [.int i])] S2 = .ok (.lst true ((sortI (l ++ [i])).map .int)) S2 := by rw [ints_snoc, sorted_ints]
  have e4 : primF .tuple [.lst true ((sortI (l ++ [i])).map .int)] S2 = .ok (plusD l i) S2 := rfl
  have fzp : frz (plusD l i) = plusD l i := frz_bag _
  have pll : primF .len [.lst false (bagsD v s)] S' = .ok (.int ((bagsL v s).length : Int)) S' := by rw [prim_lenL, bagsD_len]
  refine ⟨[some (.ref b), some (.int v), some (.int s), some (.lst false (bagsD v s)), some (.int k), w5, w6, w7], [some (.ref b), some (.int v), some (.int s), some (.lst false (bagsD v s)), some (.int k), some (plusD l i), some (.int a), some (.int i)], S2, rfl, ?_, ⟨_, _, _, _, rfl⟩, g2.mono (by omega), (hsm.trans s1).trans s2⟩
  have x1 : exec pg (callF pg (n + 6)) fr (.par 6 7 (.sub (.lst [(.cst (.int 0)), (.bin .Sub (.prim .len [(.var 3)]) (.cst (.int 1))), (.call 18 [(.var 0), (.prim .len [(.var 3)])])]) (.bin .Mod (.var 4) (.cst (.int 3)))) (.call 18 [(.var 0), (.cst (.int 4))])) [some (.ref b), some (.int v), some (.int s), some (.lst false (bagsD v s)), some (.int k), w5, w6, w7] S' = .nx [some (.ref b), some (.int v), some (.int s), some (.lst false (bagsD v s)), some (.int k), w5, some (.int a), some (.int i)] S2 := by
    simp only [exec_par, ev_sub, ev_lst, evs_cst, ev_cst, evs_bin, ev_bin, ev_prim, evs_var, ev_var, evs_nil, bind_ok, List.getElem?_cons_zero, List.getElem?_cons_succ, pll, bin_sub, evs_call, ev_call, evs_prim, frzL_cons, frzL_nil, frz_ref, frz_int, r1, List.length_cons, List.length_nil, Nat.zero_add, Nat.reduceAdd, if_pos three, m1, ea, rsof_ok, i1]
    rfl
  have x2 : exec pg (callF pg (n + 6)) fr (.asg (.nm 5) (.call 14 [(.sub (.var 3) (.var 6)), (.var 7)])) [some (.ref b), some (.int v), some (.int s), some (.lst false (bagsD v s)), some (.int k), w5, some (.int a), some (.int i)] S2 = .nx [some (.ref b), some (.int v), some (.int s), some (.lst false (bagsD v s)), some (.int k), some (plusD l i), some (.int a), some (.int i)] S2 := by
    simp [hsub, frz_bag, e14, fzp]
  have x3 : ∀ q, exec pg (callF pg (n + 6)) fr (.ite (.or (.e (.cmp .NotEq (.prim .repr [(.call 12 [(.var 1), (.sub (.var 3) (.var 6))])]) (.prim .repr [(.var 6)]))) (.e (.cmp .NotEq (.prim .repr [(.var 5)]) (.prim .repr [(.prim .tuple [(.prim .sorted [(.bin .Add (.prim .list [(.sub (.var 3) (.var 6))]) (.lst [(.var 7)]))])])])))) q []) [some (.ref b), some (.int v), some (.int s), some (.lst false (bagsD v s)), some (.int k), some (plusD l i), some (.int a), some (.int i)] S2 = .nx [some (.ref b), some (.int v), some (.int s), some (.lst false (bagsD v s)), some (.int k), some (plusD l i), some (.int a), some (.int i)] S2 := by
    intro q
    simp [hsub, frz_bag, e12, ra, rp, one, e2, e3, e4, -tuple_lst]
  have x4 : ∀ q, exec pg (callF pg (n + 6)) fr (.ite (.and (.e (.cmp .Lt (.var 2) (.cst (.int 6)))) (.e (.cmp .NotEq (.call 15 [(.var 5), (.var 7)]) (.sub (.var 3) (.var 6))))) q []) [some (.ref b), some (.int v), some (.int s), some (.lst false (bagsD v s)), some (.int k), some (plusD l i), some (.int a), some (.int i)] S2 = .nx [some (.ref b), some (.int v), some (.int s), some (.lst false (bagsD v s)), some (.int k), some (plusD l i), some (.int a), some (.int i)] S2 := by
    intro q
    by_cases h6 : s < 6
    · have c4' := c4
      rw [Bool.or_eq_true, decide_eq_true_eq, List.all_eq_true] at c4'
      have c5 := (c4'.resolve_left (by omega)) i (by simp; omega)
      rw [Bool.and_eq_true, Bool.and_eq_true, Bool.and_eq_true] at c5
      obtain ⟨⟨⟨p1, p2⟩, p3⟩, p4⟩ := c5
      have e15 := f15d (n := n) (bs := fr) (S := S2) (l := sortI (l ++ [i])) (i := i) (by rw [sort_len, List.length_append]; simp; omega) p1 hn (by simpa using p2)
      have e15' : callF pg (n + 6) fr 15 [plusD l i, .int i] S2 = .ok (lessD (sortI (l ++ [i])) (atI (sortI (l ++ [i])) i)) S2 := e15
      have ec : cmpF .NotEq (lessD (sortI (l ++ [i])) (atI (sortI (l ++ [i])) i)) (bagD l) S2 = some (!true) := by rw [cmp_ned (d := lessD (sortI (l ++ [i])) (atI (sortI (l ++ [i])) i)) (e := bagD l) rfl rfl p3 (ok_bag l), p4]
      have h6' : (s : Int) < 6 := by omega
      simp [h6', hsub, fzp, e15', ec]
    · have h6' : ¬ ((s : Int) < 6) := by omega
      simp [h6']
  show execs pg (callF pg (n + 6)) fr [_, _, _, _] _ S' = _
  rw [execs_cons, x1]
  dsimp only
  rw [execs_cons, x2]
  dsimp only
  rw [execs_cons, x3]
  dsimp only
  rw [execs_cons, x4]
  rfl
theorem f32 {v s b N : Nat} (hN : N < 90000) (hv : v ≤ 4) (h1 : 1 ≤ v) (hs : s ≤ 6) (g : GB N S b) : ∃ S', callF pg (n + 7) bs 32 [.ref b, .int v, .int s] S = .ok (.bl true) S' ∧ GB (N + 8) S' b ∧ Sm b S S' := by
  have hfew := bags_few v hv s hs
  have e19 := f19 (n := n + 5) (bs := S.length :: bs) (S := S) hv hs
  have e10 : callF pg (n + 6) (S.length :: bs) 10 [.int v, .int s] S = .ok (.lst true (bagsD v s)) S := by rw [f10 (n := n + 2) (pl_int _) (pl_int _), isn h1 hv, isn6 hs, if_pos rfl, if_pos rfl, f7 hv hs]
  have e11 : callF pg (n + 6) (S.length :: bs) 11 [.int v, .int s] S = .ok (.int ((bagsL v s).length : Int)) S := by rw [f11 (n := n + 2) (pl_int _) (pl_int _), isn h1 hv, isn6 hs, if_pos rfl, if_pos rfl]; dsimp only; rw [Int.toNat_natCast, Int.toNat_natCast]
  have r1 : ∀ S, primF .repr [.lst true (bagsD v s)] S = .ok (.str (PySem.PyData.shown (toPy (.lst true (bagsD v s))))) S := repr_ok (rd_bags hv hs) (by omega) (by omega)
  have r2 : ∀ S, primF .repr [.lst false (bagsD v s)] S = .ok (.str (PySem.PyData.shown (toPy (.lst true (bagsD v s))))) S := repr_ok (rd_bags (o := false) hv hs) (by omega) (by omega)
  have r3 : ∀ S, primF .repr [.int ((bagsL v s).length : Int)] S = .ok (.str (PySem.PyData.shown (toPy (.int ((bagsL v s).length : Int))))) S := repr_ok (rd_int (by omega) (by omega)) (by omega) (by omega)
  have x1 : exec pg (callF pg (n + 6)) (S.length :: bs) (.asg (.nm 3) (.call 19 [(.var 1), (.var 2)])) [some (.ref b), some (.int v), some (.int s), none, none, none, none, none] S = .nx [some (.ref b), some (.int v), some (.int s), some (.lst false (bagsD v s)), none, none, none, none] S := by
    simp [e19, fz_bagsD]
  have x2 : ∀ q, exec pg (callF pg (n + 6)) (S.length :: bs) (.ite (.or (.e (.cmp .NotEq (.prim .repr [(.call 10 [(.var 1), (.var 2)])]) (.prim .repr [(.var 3)]))) (.e (.cmp .NotEq (.prim .repr [(.call 11 [(.var 1), (.var 2)])]) (.prim .repr [(.prim .len [(.var 3)])])))) q []) [some (.ref b), some (.int v), some (.int s), some (.lst false (bagsD v s)), none, none, none, none] S = .nx [some (.ref b), some (.int v), some (.int s), some (.lst false (bagsD v s)), none, none, none, none] S := by
    intro q
    simp [e10, e11, r1, r2, bagsD_len, r3]
  have hi : evI pg (callF pg (n + 6)) (S.length :: bs) (.rng [(.cst (.int 4))]) [some (.ref b), some (.int v), some (.int s), some (.lst false (bagsD v s)), none, none, none, none] S = .ok (.its (rngL 0 4)) S := by
    have e : evs pg (callF pg (n + 6)) (S.length :: bs) [(.cst (.int 4))] [some (.ref b), some (.int v), some (.int s), some (.lst false (bagsD v s)), none, none, none, none] S = .ok [.int 4] S := by simp
    rw [evI_rng, e, bind_ok, rng1 _ _ (small_of (by omega) (by omega))]
  have h4 : (rngL 0 4).length = 4 := rng_len 4
  obtain ⟨σ', S', e, hP⟩ := for_inv (t := .nm 4) (body := body32) (P := inv32 v s b N S) hi (fun k x σ S' hx hP => step32 hN hv h1 hs (by have := (List.getElem?_eq_some_iff.mp hx).1; omega) x σ S' hx hP) ⟨⟨_, _, _, _, rfl⟩, g, .refl⟩
  obtain ⟨⟨w4, w5, w6, w7, rfl⟩, hg, hsm⟩ := hP
  rw [h4] at hg
  refine ⟨S', ?_, hg, hsm⟩
  refine call_rt (Df := d32) rfl rfl (by decide) ?_ (Nat.le_of_eq hsm.1)
  show execs pg (callF pg (n + 6)) (S.length :: bs) [_, _, _, _] [some (.ref b), some (.int v), some (.int s), none, none, none, none, none] S = _
  rw [execs_cons, x1]
  dsimp only
  rw [execs_cons, x2]
  dsimp only
  rw [execs_cons, e]
  rfl
end Lw
end

section
set_option Elab.async false
set_option linter.all false
set_option maxRecDepth 100000
set_option maxHeartbeats 1000000
/-! M22: k01: the law. -/
namespace Lw
open Dl
variable {n : Nat} {bs : List Nat} {S : Sto}
def Qx (x : D) : Prop := ∃ (w : Int) (d1 d2 : D), x = .lst false [.int w, d1, d2] ∧ 0 ≤ w ∧ w ≤ 4 ∧ Vl d1 ∧ Vl d2
theorem qx_fz {x : D} (h : Qx x) : frz x = x := by
  obtain ⟨w, d1, d2, rfl, _, _, h1, h2⟩ := h
  rw [frz_lst, frzL_cons, frzL_cons, frzL_cons, frzL_nil, frz_int, h1.1.1.2, h2.1.1.2]
theorem frzL_map : ∀ xs : List D, frzL xs = xs.map frz
  | [] => rfl
  | x :: xs => by rw [frzL_cons, frzL_map xs, List.map_cons]
theorem qx_all {ds : List D} (h : ∀ d, d ∈ ds → Qs d) : (∀ x, x ∈ frzL ds → Qx x) ∧ frzL (frzL ds) = frzL ds ∧ (frzL ds).length = ds.length := by
  have h1 : ∀ x, x ∈ frzL ds → Qx x := by
    intro x hx
    rw [frzL_map] at hx
    obtain ⟨d, hd, rfl⟩ := List.mem_map.mp hx
    exact h d hd
  exact ⟨h1, frzL_of fun x hx => qx_fz (h1 x hx), by rw [frzL_map, List.length_map]⟩
theorem loop_drw {f : D → Sto → R (List D)} {P : D → Prop} {b c : Nat} : ∀ {xs : List D} {N : Nat} {S : Sto}, (∀ x, x ∈ xs → ∀ M S, M < N + c * xs.length → GB M S b → ∃ (d : D) (S' : Sto), f x S = .ok [d] S' ∧ P d ∧ GB (M + c) S' b ∧ Sm b S S') → 0 < c → GB N S b →
    ∃ (ds : List D) (S' : Sto), loopL f xs S = .ok ds S' ∧ ds.length = xs.length ∧ (∀ d, d ∈ ds → P d) ∧ GB (N + c * xs.length) S' b ∧ Sm b S S'
  | [], N, S, _, _, g => ⟨[], S, rfl, rfl, fun i h => absurd h List.not_mem_nil, g, .refl⟩
  | x :: xs, N, S, h, hc, g => by
    have hl : c * (x :: xs).length = c * xs.length + c := by rw [List.length_cons, Nat.mul_succ]
    obtain ⟨d, S1, h1, h2, h4, h5⟩ := h x List.mem_cons_self N S (by omega) g
    obtain ⟨l, S2, k1, k2, k3, k4, k5⟩ := loop_drw (f := f) (P := P) (xs := xs) (N := N + c) (S := S1) (fun y hy M S hM hg => h y (List.mem_cons_of_mem _ hy) M S (by omega) hg) hc h4
    refine ⟨d :: l, S2, ?_, by rw [List.length_cons, List.length_cons, k2], fun e he => ?_, by rw [hl, show N + (c * xs.length + c) = N + c + c * xs.length by omega]; exact k4, h5.trans k5⟩
    · rw [loopL, h1, bind_ok, k1, bind_ok]
      rfl
    · rcases List.mem_cons.mp he with rfl | he
      · exact h2
      · exact k3 e he
abbrev in33 : List Dl.S := [.ite (.not (.e (.call 31 [(.var 2), (.var 4)]))) [.ret (some (.cst (.bl false)))] []]
abbrev body33 : List Dl.S := [.asg (.nm 2) (.pl 1 (.call 17 [(.call 16 [(.var 0), (.var 1)])])), .par 5 6 (.bin .Add (.cst (.int 1)) (.call 18 [(.var 2), (.cst (.int 4))])) (.call 18 [(.var 2), (.cst (.int 7))]), .asg (.nm 3) (.lc [7] (.call 30 [(.var 2)]) [.mk (.nm 7) (.rng [(.cst (.int 12))]) []]), .for_ (.nm 4) (.e (.var 3)) in33, .ite (.or (.not (.e (.call 32 [(.var 2), (.var 5), (.var 6)]))) (.not (.e (.call 31 [(.var 2), (.sub (.var 3) (.call 18 [(.var 2), (.cst (.int 12))]))])))) [.ret (some (.cst (.bl false)))] []]
theorem step33 {ns : List Int} {k : Nat} {fr : List Nat} (hk4 : k < 4) {w1 w2 w3 w4 w5 w6 w7 : Option D} (S : Sto) :
    ∃ y2 y3 y4 y5 y6 y7 S2, execs pg (callF pg (n + 9)) fr body33 [some (.lst false (ns.map .int)), some (.int k), w2, w3, w4, w5, w6, w7] S = .nx [some (.lst false (ns.map .int)), some (.int k), y2, y3, y4, y5, y6, y7] S2 := by
  obtain ⟨i, e16⟩ := f16 (n := n + 8) (bs := fr) (S := S) (ns := ns) (k := k) (by omega)
  obtain ⟨a, f, m, e17, a1, a2, a3⟩ := f17 (n := n + 8) (bs := fr) (S := S) (i := i)
  have g0 : GB 0 (S ++ [boxD a f m 0]) S.length := ⟨a, f, m, 0, by simp, a1, a2, a3, by omega, by omega⟩
  obtain ⟨v, S1, v1, v2, v3, g1, _⟩ := f18 (n := n + 8) (bs := fr) (k := 4) (by omega) (by omega) (by omega) g0
  obtain ⟨s, S2, s1, s2, s3, g2, _⟩ := f18 (n := n + 8) (bs := fr) (k := 7) (by omega) (by omega) (by omega) g1
  obtain ⟨v, rfl⟩ : ∃ q : Nat, v = q := ⟨v.toNat, by omega⟩
  obtain ⟨s, rfl⟩ : ∃ q : Nat, s = q := ⟨s.toNat, by omega⟩
  have hv : (1 : Int) + v = ((v + 1 : Nat) : Int) := by omega
  have x1 : exec pg (callF pg (n + 9)) fr (.asg (.nm 2) (.pl 1 (.call 17 [(.call 16 [(.var 0), (.var 1)])]))) [some (.lst false (ns.map .int)), some (.int k), w2, w3, w4, w5, w6, w7] S = .nx [some (.lst false (ns.map .int)), some (.int k), some (.ref S.length), w3, w4, w5, w6, w7] (S ++ [boxD a f m 0]) := by
    have ep : plant 1 (boxD a f m 0) S = (.ref S.length, S ++ [boxD a f m 0]) := by
      unfold boxD
      have e : plant 1 (.lst true [.int a, .bl f, .int m, .int 0]) S = (.ref (plantL 0 [.int a, .bl f, .int m, .int 0] S).2.length, (plantL 0 [.int a, .bl f, .int m, .int 0] S).2 ++ [.lst true (plantL 0 [.int a, .bl f, .int m, .int 0] S).1]) := rfl
      rw [e, plL0]
      rfl
    simp [e16, e17, ep, frzL_ints]
  have x2 : exec pg (callF pg (n + 9)) fr (.par 5 6 (.bin .Add (.cst (.int 1)) (.call 18 [(.var 2), (.cst (.int 4))])) (.call 18 [(.var 2), (.cst (.int 7))])) [some (.lst false (ns.map .int)), some (.int k), some (.ref S.length), w3, w4, w5, w6, w7] (S ++ [boxD a f m 0]) = .nx [some (.lst false (ns.map .int)), some (.int k), some (.ref S.length), w3, w4, some (.int ((v + 1 : Nat) : Int)), some (.int s), w7] S2 := by
    simp only [exec_par, ev_bin, ev_cst, ev_call, evs_var, ev_var, evs_cst, evs_nil, bind_ok, List.getElem?_cons_zero, List.getElem?_cons_succ, frzL_cons, frzL_nil, frz_ref, frz_int, v1, bin_add, rsof_ok, s1, hv]
    rfl
  obtain ⟨ds, S3, k1, k2, k3, g3, _⟩ := loop_drw (c := 40) (P := Qs) (f := lcF pg (callF pg (n + 9)) fr (.nm 7) [] (.call 30 [(.var 2)]) [some (.lst false (ns.map .int)), some (.int k), some (.ref S.length), w3, w4, some (.int ((v + 1 : Nat) : Int)), some (.int s), none]) (xs := rngL 0 12) (N := 2) (S := S2) (b := S.length) (fun x hx M S' hM hg => by
    rw [show (rngL 0 12).length = 12 from rng_len 12] at hM
    obtain ⟨d, S'', q1, q2, q3, q4⟩ := f30 (n := n + 5) (bs := fr) (by omega) hg
    refine ⟨d, S'', ?_, q2, q3, q4⟩
    unfold lcF
    simp [evC, evG, q1]) (by omega) g2
  rw [show (rngL 0 12).length = 12 from rng_len 12] at k2 g3
  obtain ⟨p1, p2, p3⟩ := qx_all k3
  have x3 : exec pg (callF pg (n + 9)) fr (.asg (.nm 3) (.lc [7] (.call 30 [(.var 2)]) [.mk (.nm 7) (.rng [(.cst (.int 12))]) []])) [some (.lst false (ns.map .int)), some (.int k), some (.ref S.length), w3, w4, some (.int ((v + 1 : Nat) : Int)), some (.int s), w7] S2 = .nx [some (.lst false (ns.map .int)), some (.int k), some (.ref S.length), some (.lst false (frzL ds)), w4, some (.int ((v + 1 : Nat) : Int)), some (.int s), w7] S3 := by
    have e1 : evI pg (callF pg (n + 9)) fr (.rng [(.cst (.int 12))]) [some (.lst false (ns.map .int)), some (.int k), some (.ref S.length), w3, w4, some (.int ((v + 1 : Nat) : Int)), some (.int s), w7] S2 = .ok (.its (rngL 0 12)) S2 := by
      have e : evs pg (callF pg (n + 9)) fr [(.cst (.int 12))] [some (.lst false (ns.map .int)), some (.int k), some (.ref S.length), w3, w4, some (.int ((v + 1 : Nat) : Int)), some (.int s), w7] S2 = .ok [.int 12] S2 := by simp
      rw [evI_rng, e, bind_ok, rng1 _ _ (small_of (by omega) (by omega))]
    have e2 : ev pg (callF pg (n + 9)) fr (.lc [7] (.call 30 [(.var 2)]) [.mk (.nm 7) (.rng [(.cst (.int 12))]) []]) [some (.lst false (ns.map .int)), some (.int k), some (.ref S.length), w3, w4, some (.int ((v + 1 : Nat) : Int)), some (.int s), w7] S2 = .ok (.lst true ds) S3 := by
      rw [ev, e1]
      show (loopR (lcF pg (callF pg (n + 9)) fr (.nm 7) [] (.call 30 [(.var 2)]) [some (.lst false (ns.map .int)), some (.int k), some (.ref S.length), w3, w4, some (.int ((v + 1 : Nat) : Int)), some (.int s), none]) (.its (rngL 0 12)) S2).bind (fun xs S => if xs.length < PySem.sizeLine then R.ok (D.lst true xs) S else R.er) = _
      rw [show loopR (lcF pg (callF pg (n + 9)) fr (.nm 7) [] (.call 30 [(.var 2)]) [some (.lst false (ns.map .int)), some (.int k), some (.ref S.length), w3, w4, some (.int ((v + 1 : Nat) : Int)), some (.int s), none]) (.its (rngL 0 12)) S2 = _ from k1, bind_ok, if_pos (by rw [k2, PySem.sizeLine_eq]; omega)]
    rw [exec_asg, e2, rsof_ok, frz_lst]
    rfl
  rw [k2] at p3
  generalize frzL ds = qs at p1 p2 p3 x3
  have hi : evI pg (callF pg (n + 9)) fr (.e (.var 3)) [some (.lst false (ns.map .int)), some (.int k), some (.ref S.length), some (.lst false qs), w4, some (.int ((v + 1 : Nat) : Int)), some (.int s), w7] S3 = .ok (.its qs) S3 := by
    rw [evI_e, ev_var]
    show R.ok (Src.its (frzL qs)) S3 = _
    rw [p2]
  obtain ⟨σ4, S4, x4, hP⟩ := for_inv (T := pg) (C := callF pg (n + 9)) (b := fr) (t := .nm 4) (body := in33) (P := fun j σ S' => (∃ w, σ = [some (.lst false (ns.map .int)), some (.int k), some (.ref S.length), some (.lst false qs), w, some (.int ((v + 1 : Nat) : Int)), some (.int s), w7]) ∧ GB (482 + j) S' S.length) hi (by
    intro j x σ S' hx hP
    obtain ⟨⟨w, rfl⟩, hg⟩ := hP
    have hj := (List.getElem?_eq_some_iff.mp hx).1
    have hq := p1 x (List.mem_of_getElem? hx)
    have hf := qx_fz hq
    obtain ⟨q, d1, d2, rfl, q0, q4, u1, u2⟩ := hq
    obtain ⟨S5, e31, g5, _⟩ := f31 (n := n) (bs := fr) (by omega) q0 q4 u1 u2 hg
    refine ⟨_, [some (.lst false (ns.map .int)), some (.int k), some (.ref S.length), some (.lst false qs), some (.lst false [.int q, d1, d2]), some (.int ((v + 1 : Nat) : Int)), some (.int s), w7], S5, rfl, ?_, ⟨_, rfl⟩, g5⟩
    have hfl : frzL [.ref S.length, .lst false [.int q, d1, d2]] = [.ref S.length, .lst false [.int q, d1, d2]] := by rw [frzL_cons, frzL_cons, hf]; rfl
    show execs pg (callF pg (n + 9)) fr [_] [some (.lst false (ns.map .int)), some (.int k), some (.ref S.length), some (.lst false qs), some (.lst false [.int q, d1, d2]), some (.int ((v + 1 : Nat) : Int)), some (.int s), w7] S' = _
    simp only [execs_cons, exec_ite, evT_not, evT_e, ev_call, evs_var, ev_var, evs_nil, bind_ok, List.getElem?_cons_zero, List.getElem?_cons_succ, hfl, e31, truth_bl, ofO_some, Bool.not_true, rsof_ok, if_neg Bool.false_ne_true, execs_nil]) ⟨⟨_, rfl⟩, g3⟩
  obtain ⟨⟨w, rfl⟩, g4⟩ := hP
  rw [p3] at g4
  obtain ⟨S5, e32, g5, _⟩ := f32 (n := n + 2) (bs := fr) (v := v + 1) (s := s) (by omega) (by omega) (by omega) (by omega) g4
  obtain ⟨r, S6, r1, r2, r3, g6, _⟩ := f18 (n := n + 8) (bs := fr) (k := 12) (by omega) (by omega) (by omega) g5
  obtain ⟨x, hx, ex⟩ := at_get (xs := qs) (o := false) (S := S6) r2 (by omega)
  have hq := p1 x hx
  have hf := qx_fz hq
  obtain ⟨q, d1, d2, rfl, q0, q4, u1, u2⟩ := hq
  obtain ⟨S7, e31, g7, _⟩ := f31 (n := n) (bs := fr) (by omega) q0 q4 u1 u2 g6
  have hfl : frzL [.ref S.length, .lst false [.int q, d1, d2]] = [.ref S.length, .lst false [.int q, d1, d2]] := by rw [frzL_cons, frzL_cons, hf]; rfl
  refine ⟨some (.ref S.length), some (.lst false qs), w, some (.int ((v + 1 : Nat) : Int)), some (.int s), w7, S7, ?_⟩
  show execs pg (callF pg (n + 9)) fr [_, _, _, _, _] _ S = _
  rw [execs_cons, x1]
  dsimp only
  rw [execs_cons, x2]
  dsimp only
  rw [execs_cons, x3]
  dsimp only
  rw [execs_cons, x4]
  dsimp only
  simp only [execs_cons, exec_ite, evT_or, evT_not, evT_e, ev_call, evs_call, evs_var, ev_var, evs_nil, bind_ok, List.getElem?_cons_zero, List.getElem?_cons_succ, frzL_cons, frzL_nil, frz_ref, frz_int, e32, truth_bl, ofO_some, Bool.not_true, if_neg Bool.false_ne_true, evs_sub, ev_sub, evs_cst, ev_cst, r1, ex, hf, e31, rsof_ok, execs_nil]
theorem law_ok {ns : List Int} : ∃ S', callF pg (n + 10) bs 33 [.lst false (ns.map .int)] S = .ok (.bl true) S' := by
  obtain ⟨j, hj, ej⟩ : ∃ j : Nat, j ≤ 4 ∧ evI pg (callF pg (n + 9)) (S.length :: bs) (.rng [(.prim .max2 [(.cst (.int 2)), (.prim .min2 [(.cst (.int 4)), (.prim .len [(.var 0)])])])]) [some (.lst false (ns.map .int)), none, none, none, none, none, none, none] S = .ok (.its (rngL 0 j)) S := by
    have e : ∃ j : Nat, j ≤ 4 ∧ evs pg (callF pg (n + 9)) (S.length :: bs) [(.prim .max2 [(.cst (.int 2)), (.prim .min2 [(.cst (.int 4)), (.prim .len [(.var 0)])])])] [some (.lst false (ns.map .int)), none, none, none, none, none, none, none] S = .ok [.int j] S := by
      let i : Int := if (ns.length : Int) < 4 then (ns.length : Int) else 4
      have hi : i = if (ns.length : Int) < 4 then (ns.length : Int) else 4 := rfl
      have i0 : 0 ≤ i ∧ i ≤ 4 := by rw [hi]; split <;> omega
      let m : Int := if i > 2 then i else 2
      have hm : m = if i > 2 then i else 2 := rfl
      have m0 : 0 ≤ m ∧ m ≤ 4 := by rw [hm]; split <;> omega
      refine ⟨m.toNat, by omega, ?_⟩
      rw [Int.toNat_of_nonneg m0.1]
      have e1 : primF .len [.lst false (ns.map .int)] S = .ok (.int (ns.length : Int)) S := by rw [prim_lenL, List.length_map]
      have e2 : primF .min2 [.int 4, .int (ns.length : Int)] S = .ok (.int i) S := rfl
      have e3 : primF .max2 [.int 2, .int i] S = .ok (.int m) S := rfl
      simp only [evs_prim, ev_prim, evs_cst, ev_cst, evs_var, ev_var, evs_nil, bind_ok, List.getElem?_cons_zero, e1, e2, e3]
    obtain ⟨j, hj, e⟩ := e
    exact ⟨j, hj, by rw [evI_rng, e, bind_ok, rng1 _ _ (small_of (by omega) (by omega))]⟩
  obtain ⟨σ', S', e, hP⟩ := for_inv (T := pg) (C := callF pg (n + 9)) (b := S.length :: bs) (t := .nm 1) (body := body33) (P := fun _ σ _ => ∃ w1 w2 w3 w4 w5 w6 w7, σ = [some (.lst false (ns.map .int)), w1, w2, w3, w4, w5, w6, w7]) ej (by
    intro k x σ S' hx hP
    obtain ⟨w1, w2, w3, w4, w5, w6, w7, rfl⟩ := hP
    have hk := (List.getElem?_eq_some_iff.mp hx).1
    rw [rng_len] at hk
    have hxk : x = .int k := by
      unfold rngL at hx
      rw [List.getElem?_map, List.getElem?_range (by simpa using hk)] at hx
      simp at hx
      exact hx.symm
    subst hxk
    obtain ⟨u2, u3, u4, u5, u6, u7, S2, h⟩ := step33 (n := n) (ns := ns) (k := k) (fr := S.length :: bs) (by omega) (w1 := none) (w2 := w2) (w3 := w3) (w4 := w4) (w5 := w5) (w6 := w6) (w7 := w7) S'
    exact ⟨_, _, S2, rfl, h, ⟨_, _, _, _, _, _, _, rfl⟩⟩) ⟨_, _, _, _, _, _, _, rfl⟩
  obtain ⟨w1, w2, w3, w4, w5, w6, w7, rfl⟩ := hP
  refine ⟨S'.take S.length, call_rt2 (Df := d33) rfl rfl (by decide) ?_ (leave_bl true S')⟩
  show execs pg (callF pg (n + 9)) (S.length :: bs) [_, _] [some (.lst false (ns.map .int)), none, none, none, none, none, none, none] S = _
  rw [execs_cons, e]
  rfl
end Lw
theorem k01_main : ∀ ns : List Int, ns.length ≤ 63 → ∃ S, Dl.callF Lw.pg 20 [] 33 [.lst false (ns.map .int)] [] = .ok (.bl true) S := fun ns _ => Lw.law_ok (n := 10)
end

section
set_option Elab.async false
set_option linter.all false
set_option maxRecDepth 100000
set_option maxHeartbeats 0
namespace Lw
open PySem PySem.Spec PyProof.Rows L2 Dl
abbrev prg : Program := PySem.Challenge.pw_oneforone_k01_bags
def top (i : Nat) : Stmt := prg.main.body.getD i (.Pass ⟨0, 0, 0, 0⟩)
def g0 : He.DefD := ⟨("is_integer", none), "is_integer", "is_integer", defArgs (top 10), defBody (top 10), defScope (top 10), [], []⟩
def g1 : He.DefD := ⟨("is_between", none), "is_between", "is_between", defArgs (top 11), defBody (top 11), defScope (top 11), [], []⟩
def g2 : He.DefD := ⟨("is_index", none), "is_index", "is_index", defArgs (top 12), defBody (top 12), defScope (top 12), [], []⟩
def g3 : He.DefD := ⟨("check_values", none), "check_values", "check_values", defArgs (top 16), defBody (top 16), defScope (top 16), [], []⟩
def g4 : He.DefD := ⟨("check_size", none), "check_size", "check_size", defArgs (top 17), defBody (top 17), defScope (top 17), [], []⟩
def g5 : He.DefD := ⟨("is_bag_of", none), "is_bag_of", "is_bag_of", defArgs (top 18), defBody (top 18), defScope (top 18), [], []⟩
def g6 : He.DefD := ⟨("is_small_bag", none), "is_small_bag", "is_small_bag", defArgs (top 19), defBody (top 19), defScope (top 19), [], []⟩
def g7 : He.DefD := ⟨("all_bags", none), "all_bags", "all_bags", defArgs (top 20), defBody (top 20), defScope (top 20), [], []⟩
def g8 : He.DefD := ⟨("plus", none), "plus", "plus", defArgs (top 21), defBody (top 21), defScope (top 21), [], []⟩
def g9 : He.DefD := ⟨("less", none), "less", "less", defArgs (top 22), defBody (top 22), defScope (top 22), [], []⟩
def g10 : He.DefD := ⟨("bags", none), "bags", "bags", defArgs (top 23), defBody (top 23), defScope (top 23), [], []⟩
def g11 : He.DefD := ⟨("count_bags", none), "count_bags", "count_bags", defArgs (top 24), defBody (top 24), defScope (top 24), [], []⟩
def g12 : He.DefD := ⟨("bag_index", none), "bag_index", "bag_index", defArgs (top 25), defBody (top 25), defScope (top 25), [], []⟩
def g13 : He.DefD := ⟨("check_parts", none), "check_parts", "check_parts", defArgs (top 26), defBody (top 26), defScope (top 26), [], []⟩
def g14 : He.DefD := ⟨("added", none), "added", "added", defArgs (top 27), defBody (top 27), defScope (top 27), [], []⟩
def g15 : He.DefD := ⟨("removed", none), "removed", "removed", defArgs (top 28), defBody (top 28), defScope (top 28), [], []⟩
def g16 : He.DefD := ⟨("_law_cell", none), "_law_cell", "_law_cell", defArgs (top 30), defBody (top 30), defScope (top 30), [], []⟩
def g17 : He.DefD := ⟨("_law_box", none), "_law_box", "_law_box", defArgs (top 31), defBody (top 31), defScope (top 31), [], []⟩
def g18 : He.DefD := ⟨("_law_take", none), "_law_take", "_law_take", defArgs (top 32), defBody (top 32), defScope (top 32), [], []⟩
def g19 : He.DefD := ⟨("_law_bags", none), "_law_bags", "_law_bags", defArgs (top 33), defBody (top 33), defScope (top 33), [], []⟩
def g20 : He.DefD := ⟨("_law_is_number", none), "_law_is_number", "_law_is_number", defArgs (top 34), defBody (top 34), defScope (top 34), [], []⟩
def g21 : He.DefD := ⟨("_law_is_bag", none), "_law_is_bag", "_law_is_bag", defArgs (top 35), defBody (top 35), defScope (top 35), [], []⟩
def g22 : He.DefD := ⟨("_law_odd", none), "_law_odd", "_law_odd", defArgs (top 36), defBody (top 36), defScope (top 36), [], []⟩
def g23 : He.DefD := ⟨("_law_number", none), "_law_number", "_law_number", defArgs (top 37), defBody (top 37), defScope (top 37), [], []⟩
def g24 : He.DefD := ⟨("_law_bag", none), "_law_bag", "_law_bag", defArgs (top 38), defBody (top 38), defScope (top 38), [], []⟩
def g25 : He.DefD := ⟨("_law_near", none), "_law_near", "_law_near", defArgs (top 39), defBody (top 39), defScope (top 39), [], []⟩
def g26 : He.DefD := ⟨("_law_due", none), "_law_due", "_law_due", defArgs (top 40), defBody (top 40), defScope (top 40), [], []⟩
def g27 : He.DefD := ⟨("_law_call", none), "_law_call", "_law_call", defArgs (top 41), defBody (top 41), defScope (top 41), [], []⟩
def g28 : He.DefD := ⟨("_law_named", none), "_law_named", "_law_named", defArgs (top 42), defBody (top 42), defScope (top 42), [], []⟩
def g29 : He.DefD := ⟨("_law_told", none), "_law_told", "_law_told", defArgs (top 43), defBody (top 43), defScope (top 43), [], []⟩
def g30 : He.DefD := ⟨("_law_question", none), "_law_question", "_law_question", defArgs (top 44), defBody (top 44), defScope (top 44), [], []⟩
def g31 : He.DefD := ⟨("_law_answers_right", none), "_law_answers_right", "_law_answers_right", defArgs (top 45), defBody (top 45), defScope (top 45), [], []⟩
def g32 : He.DefD := ⟨("_law_there_and_back", none), "_law_there_and_back", "_law_there_and_back", defArgs (top 46), defBody (top 46), defScope (top 46), [], []⟩
def g33 : He.DefD := ⟨("law", none), "law", "law", defArgs (top 47), defBody (top 47), defScope (top 47), [], []⟩
def gi0 : He.DefD := ⟨("InvalidValues", some "__init__"), "__init__", "InvalidValues.__init__", defArgs ((cBody (top 3)).getD 0 (.Pass ⟨0, 0, 0, 0⟩)), defBody ((cBody (top 3)).getD 0 (.Pass ⟨0, 0, 0, 0⟩)), defScope ((cBody (top 3)).getD 0 (.Pass ⟨0, 0, 0, 0⟩)), [], []⟩
def gi1 : He.DefD := ⟨("InvalidSize", some "__init__"), "__init__", "InvalidSize.__init__", defArgs ((cBody (top 4)).getD 0 (.Pass ⟨0, 0, 0, 0⟩)), defBody ((cBody (top 4)).getD 0 (.Pass ⟨0, 0, 0, 0⟩)), defScope ((cBody (top 4)).getD 0 (.Pass ⟨0, 0, 0, 0⟩)), [], []⟩
def gi2 : He.DefD := ⟨("InvalidBag", some "__init__"), "__init__", "InvalidBag.__init__", defArgs ((cBody (top 5)).getD 0 (.Pass ⟨0, 0, 0, 0⟩)), defBody ((cBody (top 5)).getD 0 (.Pass ⟨0, 0, 0, 0⟩)), defScope ((cBody (top 5)).getD 0 (.Pass ⟨0, 0, 0, 0⟩)), [], []⟩
def gi3 : He.DefD := ⟨("InvalidValue", some "__init__"), "__init__", "InvalidValue.__init__", defArgs ((cBody (top 6)).getD 0 (.Pass ⟨0, 0, 0, 0⟩)), defBody ((cBody (top 6)).getD 0 (.Pass ⟨0, 0, 0, 0⟩)), defScope ((cBody (top 6)).getD 0 (.Pass ⟨0, 0, 0, 0⟩)), [], []⟩
def gi4 : He.DefD := ⟨("NotInBag", some "__init__"), "__init__", "NotInBag.__init__", defArgs ((cBody (top 8)).getD 0 (.Pass ⟨0, 0, 0, 0⟩)), defBody ((cBody (top 8)).getD 0 (.Pass ⟨0, 0, 0, 0⟩)), defScope ((cBody (top 8)).getD 0 (.Pass ⟨0, 0, 0, 0⟩)), [], []⟩
def fn : List He.DefD := [g0, g1, g2, g3, g4, g5, g6, g7, g8, g9, g10, g11, g12, g13, g14, g15, g16, g17, g18, g19, g20, g21, g22, g23, g24, g25, g26, g27, g28, g29, g30, g31, g32, g33, gi0, gi1, gi2, gi3, gi4]
def xi : List (Nat × He.DefD) := [(1, gi0), (2, gi1), (3, gi2), (4, gi3), (5, gi4)]
def tb : Tb where
  dn := [some (Str.ofString "is_integer"), some (Str.ofString "is_between"), some (Str.ofString "is_index"), some (Str.ofString "check_values"), some (Str.ofString "check_size"), some (Str.ofString "is_bag_of"), some (Str.ofString "is_small_bag"), some (Str.ofString "all_bags"), some (Str.ofString "plus"), some (Str.ofString "less"), some (Str.ofString "bags"), some (Str.ofString "count_bags"), some (Str.ofString "bag_index"), some (Str.ofString "check_parts"), some (Str.ofString "added"), some (Str.ofString "removed"), some (Str.ofString "_law_cell"), some (Str.ofString "_law_box"), some (Str.ofString "_law_take"), some (Str.ofString "_law_bags"), some (Str.ofString "_law_is_number"), some (Str.ofString "_law_is_bag"), some (Str.ofString "_law_odd"), some (Str.ofString "_law_number"), some (Str.ofString "_law_bag"), some (Str.ofString "_law_near"), some (Str.ofString "_law_due"), some (Str.ofString "_law_call"), some (Str.ofString "_law_named"), some (Str.ofString "_law_told"), some (Str.ofString "_law_question"), some (Str.ofString "_law_answers_right"), some (Str.ofString "_law_there_and_back"), some (Str.ofString "law")]
  ps := [[(Str.ofString "value")], [(Str.ofString "value"), (Str.ofString "least"), (Str.ofString "most")], [(Str.ofString "value"), (Str.ofString "many")], [(Str.ofString "values")], [(Str.ofString "size"), (Str.ofString "least"), (Str.ofString "most")], [(Str.ofString "values"), (Str.ofString "size"), (Str.ofString "value")], [(Str.ofString "values"), (Str.ofString "value")], [(Str.ofString "values"), (Str.ofString "size")], [(Str.ofString "bag"), (Str.ofString "value")], [(Str.ofString "bag"), (Str.ofString "value")], [(Str.ofString "values"), (Str.ofString "size")], [(Str.ofString "values"), (Str.ofString "size")], [(Str.ofString "values"), (Str.ofString "bag")], [(Str.ofString "bag"), (Str.ofString "value")], [(Str.ofString "bag"), (Str.ofString "value")], [(Str.ofString "bag"), (Str.ofString "value")], [(Str.ofString "_law_script"), (Str.ofString "_law_k")], [(Str.ofString "_law_great")], [(Str.ofString "_law_box_here"), (Str.ofString "_law_many")], [(Str.ofString "_law_values"), (Str.ofString "_law_size")], [(Str.ofString "_law_thing"), (Str.ofString "_law_least"), (Str.ofString "_law_most")], [(Str.ofString "_law_values"), (Str.ofString "_law_thing")], [(Str.ofString "_law_box_here")], [(Str.ofString "_law_box_here"), (Str.ofString "_law_least"), (Str.ofString "_law_most")], [(Str.ofString "_law_box_here"), (Str.ofString "_law_values")], [(Str.ofString "_law_box_here"), (Str.ofString "_law_values")], [(Str.ofString "_law_way"), (Str.ofString "_law_one"), (Str.ofString "_law_other")], [(Str.ofString "_law_way"), (Str.ofString "_law_one"), (Str.ofString "_law_other")], [(Str.ofString "_law_way"), (Str.ofString "_law_one"), (Str.ofString "_law_other")], [(Str.ofString "_law_way"), (Str.ofString "_law_one"), (Str.ofString "_law_other"), (Str.ofString "_law_named_here")], [(Str.ofString "_law_box_here")], [(Str.ofString "_law_box_here"), (Str.ofString "_law_question_here")], [(Str.ofString "_law_box_here"), (Str.ofString "_law_values"), (Str.ofString "_law_size")], [(Str.ofString "_law_script")]]
  kw := [(10, [(Str.ofString "size"), (Str.ofString "values")], [1, 0]), (11, [(Str.ofString "size"), (Str.ofString "values")], [1, 0]), (12, [(Str.ofString "bag"), (Str.ofString "values")], [1, 0]), (14, [(Str.ofString "value"), (Str.ofString "bag")], [1, 0]), (15, [(Str.ofString "value"), (Str.ofString "bag")], [1, 0])]
  cn := [(Str.ofString "BoardError"), (Str.ofString "InvalidValues"), (Str.ofString "InvalidSize"), (Str.ofString "InvalidBag"), (Str.ofString "InvalidValue"), (Str.ofString "NotInBag")]
  nums := [(Str.ofString "MOST_VALUES", 4), (Str.ofString "MOST_SIZE", 6)]
  free := [(Str.ofString "abs"), (Str.ofString "all"), (Str.ofString "bool"), (Str.ofString "dict"), (Str.ofString "int"), (Str.ofString "isinstance"), (Str.ofString "len"), (Str.ofString "list"), (Str.ofString "max"), (Str.ofString "min"), (Str.ofString "range"), (Str.ofString "repr"), (Str.ofString "sorted"), (Str.ofString "sum"), (Str.ofString "tuple")]
  comb := true
  nms := [(Str.ofString "given"), (Str.ofString "value")]
  xc := [1, 2, 3, 4, 5]
def Nl : List (List Str) := [[(Str.ofString "value")], [(Str.ofString "value"), (Str.ofString "least"), (Str.ofString "most")], [(Str.ofString "value"), (Str.ofString "many")], [(Str.ofString "values")], [(Str.ofString "size"), (Str.ofString "least"), (Str.ofString "most")], [(Str.ofString "values"), (Str.ofString "size"), (Str.ofString "value"), (Str.ofString "item")], [(Str.ofString "values"), (Str.ofString "value")], [(Str.ofString "values"), (Str.ofString "size"), (Str.ofString "found"), (Str.ofString "_"), (Str.ofString "bag"), (Str.ofString "value")], [(Str.ofString "bag"), (Str.ofString "value")], [(Str.ofString "bag"), (Str.ofString "value"), (Str.ofString "at")], [(Str.ofString "values"), (Str.ofString "size")], [(Str.ofString "values"), (Str.ofString "size")], [(Str.ofString "values"), (Str.ofString "bag")], [(Str.ofString "bag"), (Str.ofString "value")], [(Str.ofString "bag"), (Str.ofString "value")], [(Str.ofString "bag"), (Str.ofString "value")], [(Str.ofString "_law_script"), (Str.ofString "_law_k")], [(Str.ofString "_law_great")], [(Str.ofString "_law_box_here"), (Str.ofString "_law_many"), (Str.ofString "_law_mixed"), (Str.ofString "_law_digit")], [(Str.ofString "_law_values"), (Str.ofString "_law_size"), (Str.ofString "_law_found"), (Str.ofString "_law_turn"), (Str.ofString "_law_longer"), (Str.ofString "_law_bag_here"), (Str.ofString "_law_least"), (Str.ofString "_law_value")], [(Str.ofString "_law_thing"), (Str.ofString "_law_least"), (Str.ofString "_law_most")], [(Str.ofString "_law_values"), (Str.ofString "_law_thing"), (Str.ofString "_law_item")], [(Str.ofString "_law_box_here"), (Str.ofString "_law_menu")], [(Str.ofString "_law_box_here"), (Str.ofString "_law_least"), (Str.ofString "_law_most"), (Str.ofString "_law_way")], [(Str.ofString "_law_box_here"), (Str.ofString "_law_values"), (Str.ofString "_law_turn")], [(Str.ofString "_law_box_here"), (Str.ofString "_law_values"), (Str.ofString "_law_way"), (Str.ofString "_law_bag_here"), (Str.ofString "_law_at"), (Str.ofString "_law_thing")], [(Str.ofString "_law_way"), (Str.ofString "_law_one"), (Str.ofString "_law_other"), (Str.ofString "_law_at"), (Str.ofString "_law_found")], [(Str.ofString "_law_way"), (Str.ofString "_law_one"), (Str.ofString "_law_other")], [(Str.ofString "_law_way"), (Str.ofString "_law_one"), (Str.ofString "_law_other")], [(Str.ofString "_law_way"), (Str.ofString "_law_one"), (Str.ofString "_law_other"), (Str.ofString "_law_named_here"), (Str.ofString "e")], [(Str.ofString "_law_box_here"), (Str.ofString "_law_way"), (Str.ofString "_law_values"), (Str.ofString "_law_most")], [(Str.ofString "_law_box_here"), (Str.ofString "_law_question_here"), (Str.ofString "_law_kept"), (Str.ofString "_law_first"), (Str.ofString "_law_way"), (Str.ofString "_law_one"), (Str.ofString "_law_other"), (Str.ofString "_law_due_here"), (Str.ofString "_law_named_here")], [(Str.ofString "_law_box_here"), (Str.ofString "_law_values"), (Str.ofString "_law_size"), (Str.ofString "_law_found"), (Str.ofString "_law_turn"), (Str.ofString "_law_more"), (Str.ofString "_law_at"), (Str.ofString "_law_value")], [(Str.ofString "_law_script"), (Str.ofString "_law_k"), (Str.ofString "_law_box_here"), (Str.ofString "_law_questions"), (Str.ofString "_law_question_here"), (Str.ofString "_law_values"), (Str.ofString "_law_size"), (Str.ofString "_law_turn")]]
theorem bd0 : BnD g0 [(Str.ofString "value")] := fun _ _ _ _ _ _ us hl => match us, hl with | [_], _ => rfl
theorem bd1 : BnD g1 [(Str.ofString "value"), (Str.ofString "least"), (Str.ofString "most")] := fun _ _ _ _ _ _ us hl => match us, hl with | [_, _, _], _ => rfl
theorem bd2 : BnD g2 [(Str.ofString "value"), (Str.ofString "many")] := fun _ _ _ _ _ _ us hl => match us, hl with | [_, _], _ => rfl
theorem bd3 : BnD g3 [(Str.ofString "values")] := fun _ _ _ _ _ _ us hl => match us, hl with | [_], _ => rfl
theorem bd4 : BnD g4 [(Str.ofString "size"), (Str.ofString "least"), (Str.ofString "most")] := fun _ _ _ _ _ _ us hl => match us, hl with | [_, _, _], _ => rfl
theorem bd5 : BnD g5 [(Str.ofString "values"), (Str.ofString "size"), (Str.ofString "value")] := fun _ _ _ _ _ _ us hl => match us, hl with | [_, _, _], _ => rfl
theorem bd6 : BnD g6 [(Str.ofString "values"), (Str.ofString "value")] := fun _ _ _ _ _ _ us hl => match us, hl with | [_, _], _ => rfl
theorem bd7 : BnD g7 [(Str.ofString "values"), (Str.ofString "size")] := fun _ _ _ _ _ _ us hl => match us, hl with | [_, _], _ => rfl
theorem bd8 : BnD g8 [(Str.ofString "bag"), (Str.ofString "value")] := fun _ _ _ _ _ _ us hl => match us, hl with | [_, _], _ => rfl
theorem bd9 : BnD g9 [(Str.ofString "bag"), (Str.ofString "value")] := fun _ _ _ _ _ _ us hl => match us, hl with | [_, _], _ => rfl
theorem bd10 : BnD g10 [(Str.ofString "values"), (Str.ofString "size")] := fun _ _ _ _ _ _ us hl => match us, hl with | [_, _], _ => rfl
theorem bd11 : BnD g11 [(Str.ofString "values"), (Str.ofString "size")] := fun _ _ _ _ _ _ us hl => match us, hl with | [_, _], _ => rfl
theorem bd12 : BnD g12 [(Str.ofString "values"), (Str.ofString "bag")] := fun _ _ _ _ _ _ us hl => match us, hl with | [_, _], _ => rfl
theorem bd13 : BnD g13 [(Str.ofString "bag"), (Str.ofString "value")] := fun _ _ _ _ _ _ us hl => match us, hl with | [_, _], _ => rfl
theorem bd14 : BnD g14 [(Str.ofString "bag"), (Str.ofString "value")] := fun _ _ _ _ _ _ us hl => match us, hl with | [_, _], _ => rfl
theorem bd15 : BnD g15 [(Str.ofString "bag"), (Str.ofString "value")] := fun _ _ _ _ _ _ us hl => match us, hl with | [_, _], _ => rfl
theorem bd16 : BnD g16 [(Str.ofString "_law_script"), (Str.ofString "_law_k")] := fun _ _ _ _ _ _ us hl => match us, hl with | [_, _], _ => rfl
theorem bd17 : BnD g17 [(Str.ofString "_law_great")] := fun _ _ _ _ _ _ us hl => match us, hl with | [_], _ => rfl
theorem bd18 : BnD g18 [(Str.ofString "_law_box_here"), (Str.ofString "_law_many")] := fun _ _ _ _ _ _ us hl => match us, hl with | [_, _], _ => rfl
theorem bd19 : BnD g19 [(Str.ofString "_law_values"), (Str.ofString "_law_size")] := fun _ _ _ _ _ _ us hl => match us, hl with | [_, _], _ => rfl
theorem bd20 : BnD g20 [(Str.ofString "_law_thing"), (Str.ofString "_law_least"), (Str.ofString "_law_most")] := fun _ _ _ _ _ _ us hl => match us, hl with | [_, _, _], _ => rfl
theorem bd21 : BnD g21 [(Str.ofString "_law_values"), (Str.ofString "_law_thing")] := fun _ _ _ _ _ _ us hl => match us, hl with | [_, _], _ => rfl
theorem bd22 : BnD g22 [(Str.ofString "_law_box_here")] := fun _ _ _ _ _ _ us hl => match us, hl with | [_], _ => rfl
theorem bd23 : BnD g23 [(Str.ofString "_law_box_here"), (Str.ofString "_law_least"), (Str.ofString "_law_most")] := fun _ _ _ _ _ _ us hl => match us, hl with | [_, _, _], _ => rfl
theorem bd24 : BnD g24 [(Str.ofString "_law_box_here"), (Str.ofString "_law_values")] := fun _ _ _ _ _ _ us hl => match us, hl with | [_, _], _ => rfl
theorem bd25 : BnD g25 [(Str.ofString "_law_box_here"), (Str.ofString "_law_values")] := fun _ _ _ _ _ _ us hl => match us, hl with | [_, _], _ => rfl
theorem bd26 : BnD g26 [(Str.ofString "_law_way"), (Str.ofString "_law_one"), (Str.ofString "_law_other")] := fun _ _ _ _ _ _ us hl => match us, hl with | [_, _, _], _ => rfl
theorem bd27 : BnD g27 [(Str.ofString "_law_way"), (Str.ofString "_law_one"), (Str.ofString "_law_other")] := fun _ _ _ _ _ _ us hl => match us, hl with | [_, _, _], _ => rfl
theorem bd28 : BnD g28 [(Str.ofString "_law_way"), (Str.ofString "_law_one"), (Str.ofString "_law_other")] := fun _ _ _ _ _ _ us hl => match us, hl with | [_, _, _], _ => rfl
theorem bd29 : BnD g29 [(Str.ofString "_law_way"), (Str.ofString "_law_one"), (Str.ofString "_law_other"), (Str.ofString "_law_named_here")] := fun _ _ _ _ _ _ us hl => match us, hl with | [_, _, _, _], _ => rfl
theorem bd30 : BnD g30 [(Str.ofString "_law_box_here")] := fun _ _ _ _ _ _ us hl => match us, hl with | [_], _ => rfl
theorem bd31 : BnD g31 [(Str.ofString "_law_box_here"), (Str.ofString "_law_question_here")] := fun _ _ _ _ _ _ us hl => match us, hl with | [_, _], _ => rfl
theorem bd32 : BnD g32 [(Str.ofString "_law_box_here"), (Str.ofString "_law_values"), (Str.ofString "_law_size")] := fun _ _ _ _ _ _ us hl => match us, hl with | [_, _, _], _ => rfl
theorem bd33 : BnD g33 [(Str.ofString "_law_script")] := fun _ _ _ _ _ _ us hl => match us, hl with | [_], _ => rfl
theorem bk0 : BnK g10 [(Str.ofString "values"), (Str.ofString "size")] [(Str.ofString "size"), (Str.ofString "values")] [1, 0] := fun _ _ _ _ _ _ us hl => match us, hl with | [_, _], _ => rfl
theorem bk1 : BnK g11 [(Str.ofString "values"), (Str.ofString "size")] [(Str.ofString "size"), (Str.ofString "values")] [1, 0] := fun _ _ _ _ _ _ us hl => match us, hl with | [_, _], _ => rfl
theorem bk2 : BnK g12 [(Str.ofString "values"), (Str.ofString "bag")] [(Str.ofString "bag"), (Str.ofString "values")] [1, 0] := fun _ _ _ _ _ _ us hl => match us, hl with | [_, _], _ => rfl
theorem bk3 : BnK g14 [(Str.ofString "bag"), (Str.ofString "value")] [(Str.ofString "value"), (Str.ofString "bag")] [1, 0] := fun _ _ _ _ _ _ us hl => match us, hl with | [_, _], _ => rfl
theorem bk4 : BnK g15 [(Str.ofString "bag"), (Str.ofString "value")] [(Str.ofString "value"), (Str.ofString "bag")] [1, 0] := fun _ _ _ _ _ _ us hl => match us, hl with | [_, _], _ => rfl
theorem kw_ok (k : Nat) {ks : List Str} {pl : List Nat} (h : (k, ks, pl) ∈ tb.kw) : ∀ d ps, fn[k]? = some d → tb.ps[k]? = some ps → BnK d ps ks pl := by
  intro d ps hd hp
  have h2 : (k, ks, pl) ∈ [(10, [(Str.ofString "size"), (Str.ofString "values")], [1, 0]), (11, [(Str.ofString "size"), (Str.ofString "values")], [1, 0]), (12, [(Str.ofString "bag"), (Str.ofString "values")], [1, 0]), (14, [(Str.ofString "value"), (Str.ofString "bag")], [1, 0]), (15, [(Str.ofString "value"), (Str.ofString "bag")], [1, 0])] := h
  simp only [List.mem_cons, List.not_mem_nil, or_false] at h2
  rcases h2 with h2 | h2 | h2 | h2 | h2
  · cases h2; cases hd; cases hp; exact bk0
  · cases h2; cases hd; cases hp; exact bk1
  · cases h2; cases hd; cases hp; exact bk2
  · cases h2; cases hd; cases hp; exact bk3
  · cases h2; cases hd; cases hp; exact bk4
theorem db0 : defB pg tb 0 g0 [(Str.ofString "value")] [(Str.ofString "value")] = true := by decide +kernel
theorem dt0 : DefT pg tb 0 g0 [(Str.ofString "value")] [(Str.ofString "value")] := defB_ok db0 bd0 fun ks pl h => kw_ok 0 h _ _ rfl rfl
theorem db1 : defB pg tb 1 g1 [(Str.ofString "value"), (Str.ofString "least"), (Str.ofString "most")] [(Str.ofString "value"), (Str.ofString "least"), (Str.ofString "most")] = true := by decide +kernel
theorem dt1 : DefT pg tb 1 g1 [(Str.ofString "value"), (Str.ofString "least"), (Str.ofString "most")] [(Str.ofString "value"), (Str.ofString "least"), (Str.ofString "most")] := defB_ok db1 bd1 fun ks pl h => kw_ok 1 h _ _ rfl rfl
theorem db2 : defB pg tb 2 g2 [(Str.ofString "value"), (Str.ofString "many")] [(Str.ofString "value"), (Str.ofString "many")] = true := by decide +kernel
theorem dt2 : DefT pg tb 2 g2 [(Str.ofString "value"), (Str.ofString "many")] [(Str.ofString "value"), (Str.ofString "many")] := defB_ok db2 bd2 fun ks pl h => kw_ok 2 h _ _ rfl rfl
theorem db3 : defB pg tb 3 g3 [(Str.ofString "values")] [(Str.ofString "values")] = true := by decide +kernel
theorem dt3 : DefT pg tb 3 g3 [(Str.ofString "values")] [(Str.ofString "values")] := defB_ok db3 bd3 fun ks pl h => kw_ok 3 h _ _ rfl rfl
theorem db4 : defB pg tb 4 g4 [(Str.ofString "size"), (Str.ofString "least"), (Str.ofString "most")] [(Str.ofString "size"), (Str.ofString "least"), (Str.ofString "most")] = true := by decide +kernel
theorem dt4 : DefT pg tb 4 g4 [(Str.ofString "size"), (Str.ofString "least"), (Str.ofString "most")] [(Str.ofString "size"), (Str.ofString "least"), (Str.ofString "most")] := defB_ok db4 bd4 fun ks pl h => kw_ok 4 h _ _ rfl rfl
theorem db5 : defB pg tb 5 g5 [(Str.ofString "values"), (Str.ofString "size"), (Str.ofString "value")] [(Str.ofString "values"), (Str.ofString "size"), (Str.ofString "value"), (Str.ofString "item")] = true := by decide +kernel
theorem dt5 : DefT pg tb 5 g5 [(Str.ofString "values"), (Str.ofString "size"), (Str.ofString "value")] [(Str.ofString "values"), (Str.ofString "size"), (Str.ofString "value"), (Str.ofString "item")] := defB_ok db5 bd5 fun ks pl h => kw_ok 5 h _ _ rfl rfl
theorem db6 : defB pg tb 6 g6 [(Str.ofString "values"), (Str.ofString "value")] [(Str.ofString "values"), (Str.ofString "value")] = true := by decide +kernel
theorem dt6 : DefT pg tb 6 g6 [(Str.ofString "values"), (Str.ofString "value")] [(Str.ofString "values"), (Str.ofString "value")] := defB_ok db6 bd6 fun ks pl h => kw_ok 6 h _ _ rfl rfl
theorem db7 : defB pg tb 7 g7 [(Str.ofString "values"), (Str.ofString "size")] [(Str.ofString "values"), (Str.ofString "size"), (Str.ofString "found"), (Str.ofString "_"), (Str.ofString "bag"), (Str.ofString "value")] = true := by decide +kernel
theorem dt7 : DefT pg tb 7 g7 [(Str.ofString "values"), (Str.ofString "size")] [(Str.ofString "values"), (Str.ofString "size"), (Str.ofString "found"), (Str.ofString "_"), (Str.ofString "bag"), (Str.ofString "value")] := defB_ok db7 bd7 fun ks pl h => kw_ok 7 h _ _ rfl rfl
theorem db8 : defB pg tb 8 g8 [(Str.ofString "bag"), (Str.ofString "value")] [(Str.ofString "bag"), (Str.ofString "value")] = true := by decide +kernel
theorem dt8 : DefT pg tb 8 g8 [(Str.ofString "bag"), (Str.ofString "value")] [(Str.ofString "bag"), (Str.ofString "value")] := defB_ok db8 bd8 fun ks pl h => kw_ok 8 h _ _ rfl rfl
theorem db9 : defB pg tb 9 g9 [(Str.ofString "bag"), (Str.ofString "value")] [(Str.ofString "bag"), (Str.ofString "value"), (Str.ofString "at")] = true := by decide +kernel
theorem dt9 : DefT pg tb 9 g9 [(Str.ofString "bag"), (Str.ofString "value")] [(Str.ofString "bag"), (Str.ofString "value"), (Str.ofString "at")] := defB_ok db9 bd9 fun ks pl h => kw_ok 9 h _ _ rfl rfl
theorem db10 : defB pg tb 10 g10 [(Str.ofString "values"), (Str.ofString "size")] [(Str.ofString "values"), (Str.ofString "size")] = true := by decide +kernel
theorem dt10 : DefT pg tb 10 g10 [(Str.ofString "values"), (Str.ofString "size")] [(Str.ofString "values"), (Str.ofString "size")] := defB_ok db10 bd10 fun ks pl h => kw_ok 10 h _ _ rfl rfl
theorem db11 : defB pg tb 11 g11 [(Str.ofString "values"), (Str.ofString "size")] [(Str.ofString "values"), (Str.ofString "size")] = true := by decide +kernel
theorem dt11 : DefT pg tb 11 g11 [(Str.ofString "values"), (Str.ofString "size")] [(Str.ofString "values"), (Str.ofString "size")] := defB_ok db11 bd11 fun ks pl h => kw_ok 11 h _ _ rfl rfl
theorem db12 : defB pg tb 12 g12 [(Str.ofString "values"), (Str.ofString "bag")] [(Str.ofString "values"), (Str.ofString "bag")] = true := by decide +kernel
theorem dt12 : DefT pg tb 12 g12 [(Str.ofString "values"), (Str.ofString "bag")] [(Str.ofString "values"), (Str.ofString "bag")] := defB_ok db12 bd12 fun ks pl h => kw_ok 12 h _ _ rfl rfl
theorem db13 : defB pg tb 13 g13 [(Str.ofString "bag"), (Str.ofString "value")] [(Str.ofString "bag"), (Str.ofString "value")] = true := by decide +kernel
theorem dt13 : DefT pg tb 13 g13 [(Str.ofString "bag"), (Str.ofString "value")] [(Str.ofString "bag"), (Str.ofString "value")] := defB_ok db13 bd13 fun ks pl h => kw_ok 13 h _ _ rfl rfl
theorem db14 : defB pg tb 14 g14 [(Str.ofString "bag"), (Str.ofString "value")] [(Str.ofString "bag"), (Str.ofString "value")] = true := by decide +kernel
theorem dt14 : DefT pg tb 14 g14 [(Str.ofString "bag"), (Str.ofString "value")] [(Str.ofString "bag"), (Str.ofString "value")] := defB_ok db14 bd14 fun ks pl h => kw_ok 14 h _ _ rfl rfl
theorem db15 : defB pg tb 15 g15 [(Str.ofString "bag"), (Str.ofString "value")] [(Str.ofString "bag"), (Str.ofString "value")] = true := by decide +kernel
theorem dt15 : DefT pg tb 15 g15 [(Str.ofString "bag"), (Str.ofString "value")] [(Str.ofString "bag"), (Str.ofString "value")] := defB_ok db15 bd15 fun ks pl h => kw_ok 15 h _ _ rfl rfl
theorem db16 : defB pg tb 16 g16 [(Str.ofString "_law_script"), (Str.ofString "_law_k")] [(Str.ofString "_law_script"), (Str.ofString "_law_k")] = true := by decide +kernel
theorem dt16 : DefT pg tb 16 g16 [(Str.ofString "_law_script"), (Str.ofString "_law_k")] [(Str.ofString "_law_script"), (Str.ofString "_law_k")] := defB_ok db16 bd16 fun ks pl h => kw_ok 16 h _ _ rfl rfl
theorem db17 : defB pg tb 17 g17 [(Str.ofString "_law_great")] [(Str.ofString "_law_great")] = true := by decide +kernel
theorem dt17 : DefT pg tb 17 g17 [(Str.ofString "_law_great")] [(Str.ofString "_law_great")] := defB_ok db17 bd17 fun ks pl h => kw_ok 17 h _ _ rfl rfl
theorem db18 : defB pg tb 18 g18 [(Str.ofString "_law_box_here"), (Str.ofString "_law_many")] [(Str.ofString "_law_box_here"), (Str.ofString "_law_many"), (Str.ofString "_law_mixed"), (Str.ofString "_law_digit")] = true := by decide +kernel
theorem dt18 : DefT pg tb 18 g18 [(Str.ofString "_law_box_here"), (Str.ofString "_law_many")] [(Str.ofString "_law_box_here"), (Str.ofString "_law_many"), (Str.ofString "_law_mixed"), (Str.ofString "_law_digit")] := defB_ok db18 bd18 fun ks pl h => kw_ok 18 h _ _ rfl rfl
theorem db19 : defB pg tb 19 g19 [(Str.ofString "_law_values"), (Str.ofString "_law_size")] [(Str.ofString "_law_values"), (Str.ofString "_law_size"), (Str.ofString "_law_found"), (Str.ofString "_law_turn"), (Str.ofString "_law_longer"), (Str.ofString "_law_bag_here"), (Str.ofString "_law_least"), (Str.ofString "_law_value")] = true := by decide +kernel
theorem dt19 : DefT pg tb 19 g19 [(Str.ofString "_law_values"), (Str.ofString "_law_size")] [(Str.ofString "_law_values"), (Str.ofString "_law_size"), (Str.ofString "_law_found"), (Str.ofString "_law_turn"), (Str.ofString "_law_longer"), (Str.ofString "_law_bag_here"), (Str.ofString "_law_least"), (Str.ofString "_law_value")] := defB_ok db19 bd19 fun ks pl h => kw_ok 19 h _ _ rfl rfl
theorem db20 : defB pg tb 20 g20 [(Str.ofString "_law_thing"), (Str.ofString "_law_least"), (Str.ofString "_law_most")] [(Str.ofString "_law_thing"), (Str.ofString "_law_least"), (Str.ofString "_law_most")] = true := by decide +kernel
theorem dt20 : DefT pg tb 20 g20 [(Str.ofString "_law_thing"), (Str.ofString "_law_least"), (Str.ofString "_law_most")] [(Str.ofString "_law_thing"), (Str.ofString "_law_least"), (Str.ofString "_law_most")] := defB_ok db20 bd20 fun ks pl h => kw_ok 20 h _ _ rfl rfl
theorem db21 : defB pg tb 21 g21 [(Str.ofString "_law_values"), (Str.ofString "_law_thing")] [(Str.ofString "_law_values"), (Str.ofString "_law_thing"), (Str.ofString "_law_item")] = true := by decide +kernel
theorem dt21 : DefT pg tb 21 g21 [(Str.ofString "_law_values"), (Str.ofString "_law_thing")] [(Str.ofString "_law_values"), (Str.ofString "_law_thing"), (Str.ofString "_law_item")] := defB_ok db21 bd21 fun ks pl h => kw_ok 21 h _ _ rfl rfl
theorem db22 : defB pg tb 22 g22 [(Str.ofString "_law_box_here")] [(Str.ofString "_law_box_here"), (Str.ofString "_law_menu")] = true := by decide +kernel
theorem dt22 : DefT pg tb 22 g22 [(Str.ofString "_law_box_here")] [(Str.ofString "_law_box_here"), (Str.ofString "_law_menu")] := defB_ok db22 bd22 fun ks pl h => kw_ok 22 h _ _ rfl rfl
theorem db23 : defB pg tb 23 g23 [(Str.ofString "_law_box_here"), (Str.ofString "_law_least"), (Str.ofString "_law_most")] [(Str.ofString "_law_box_here"), (Str.ofString "_law_least"), (Str.ofString "_law_most"), (Str.ofString "_law_way")] = true := by decide +kernel
theorem dt23 : DefT pg tb 23 g23 [(Str.ofString "_law_box_here"), (Str.ofString "_law_least"), (Str.ofString "_law_most")] [(Str.ofString "_law_box_here"), (Str.ofString "_law_least"), (Str.ofString "_law_most"), (Str.ofString "_law_way")] := defB_ok db23 bd23 fun ks pl h => kw_ok 23 h _ _ rfl rfl
theorem db24 : defB pg tb 24 g24 [(Str.ofString "_law_box_here"), (Str.ofString "_law_values")] [(Str.ofString "_law_box_here"), (Str.ofString "_law_values"), (Str.ofString "_law_turn")] = true := by decide +kernel
theorem dt24 : DefT pg tb 24 g24 [(Str.ofString "_law_box_here"), (Str.ofString "_law_values")] [(Str.ofString "_law_box_here"), (Str.ofString "_law_values"), (Str.ofString "_law_turn")] := defB_ok db24 bd24 fun ks pl h => kw_ok 24 h _ _ rfl rfl
theorem db25 : defB pg tb 25 g25 [(Str.ofString "_law_box_here"), (Str.ofString "_law_values")] [(Str.ofString "_law_box_here"), (Str.ofString "_law_values"), (Str.ofString "_law_way"), (Str.ofString "_law_bag_here"), (Str.ofString "_law_at"), (Str.ofString "_law_thing")] = true := by decide +kernel
theorem dt25 : DefT pg tb 25 g25 [(Str.ofString "_law_box_here"), (Str.ofString "_law_values")] [(Str.ofString "_law_box_here"), (Str.ofString "_law_values"), (Str.ofString "_law_way"), (Str.ofString "_law_bag_here"), (Str.ofString "_law_at"), (Str.ofString "_law_thing")] := defB_ok db25 bd25 fun ks pl h => kw_ok 25 h _ _ rfl rfl
theorem db26 : defB pg tb 26 g26 [(Str.ofString "_law_way"), (Str.ofString "_law_one"), (Str.ofString "_law_other")] [(Str.ofString "_law_way"), (Str.ofString "_law_one"), (Str.ofString "_law_other"), (Str.ofString "_law_at"), (Str.ofString "_law_found")] = true := by decide +kernel
theorem dt26 : DefT pg tb 26 g26 [(Str.ofString "_law_way"), (Str.ofString "_law_one"), (Str.ofString "_law_other")] [(Str.ofString "_law_way"), (Str.ofString "_law_one"), (Str.ofString "_law_other"), (Str.ofString "_law_at"), (Str.ofString "_law_found")] := defB_ok db26 bd26 fun ks pl h => kw_ok 26 h _ _ rfl rfl
theorem db27 : defB pg tb 27 g27 [(Str.ofString "_law_way"), (Str.ofString "_law_one"), (Str.ofString "_law_other")] [(Str.ofString "_law_way"), (Str.ofString "_law_one"), (Str.ofString "_law_other")] = true := by decide +kernel
theorem dt27 : DefT pg tb 27 g27 [(Str.ofString "_law_way"), (Str.ofString "_law_one"), (Str.ofString "_law_other")] [(Str.ofString "_law_way"), (Str.ofString "_law_one"), (Str.ofString "_law_other")] := defB_ok db27 bd27 fun ks pl h => kw_ok 27 h _ _ rfl rfl
theorem db28 : defB pg tb 28 g28 [(Str.ofString "_law_way"), (Str.ofString "_law_one"), (Str.ofString "_law_other")] [(Str.ofString "_law_way"), (Str.ofString "_law_one"), (Str.ofString "_law_other")] = true := by decide +kernel
theorem dt28 : DefT pg tb 28 g28 [(Str.ofString "_law_way"), (Str.ofString "_law_one"), (Str.ofString "_law_other")] [(Str.ofString "_law_way"), (Str.ofString "_law_one"), (Str.ofString "_law_other")] := defB_ok db28 bd28 fun ks pl h => kw_ok 28 h _ _ rfl rfl
theorem db29 : defB pg tb 29 g29 [(Str.ofString "_law_way"), (Str.ofString "_law_one"), (Str.ofString "_law_other"), (Str.ofString "_law_named_here")] [(Str.ofString "_law_way"), (Str.ofString "_law_one"), (Str.ofString "_law_other"), (Str.ofString "_law_named_here"), (Str.ofString "e")] = true := by decide +kernel
theorem dt29 : DefT pg tb 29 g29 [(Str.ofString "_law_way"), (Str.ofString "_law_one"), (Str.ofString "_law_other"), (Str.ofString "_law_named_here")] [(Str.ofString "_law_way"), (Str.ofString "_law_one"), (Str.ofString "_law_other"), (Str.ofString "_law_named_here"), (Str.ofString "e")] := defB_ok db29 bd29 fun ks pl h => kw_ok 29 h _ _ rfl rfl
theorem db30 : defB pg tb 30 g30 [(Str.ofString "_law_box_here")] [(Str.ofString "_law_box_here"), (Str.ofString "_law_way"), (Str.ofString "_law_values"), (Str.ofString "_law_most")] = true := by decide +kernel
theorem dt30 : DefT pg tb 30 g30 [(Str.ofString "_law_box_here")] [(Str.ofString "_law_box_here"), (Str.ofString "_law_way"), (Str.ofString "_law_values"), (Str.ofString "_law_most")] := defB_ok db30 bd30 fun ks pl h => kw_ok 30 h _ _ rfl rfl
theorem db31 : defB pg tb 31 g31 [(Str.ofString "_law_box_here"), (Str.ofString "_law_question_here")] [(Str.ofString "_law_box_here"), (Str.ofString "_law_question_here"), (Str.ofString "_law_kept"), (Str.ofString "_law_first"), (Str.ofString "_law_way"), (Str.ofString "_law_one"), (Str.ofString "_law_other"), (Str.ofString "_law_due_here"), (Str.ofString "_law_named_here")] = true := by decide +kernel
theorem dt31 : DefT pg tb 31 g31 [(Str.ofString "_law_box_here"), (Str.ofString "_law_question_here")] [(Str.ofString "_law_box_here"), (Str.ofString "_law_question_here"), (Str.ofString "_law_kept"), (Str.ofString "_law_first"), (Str.ofString "_law_way"), (Str.ofString "_law_one"), (Str.ofString "_law_other"), (Str.ofString "_law_due_here"), (Str.ofString "_law_named_here")] := defB_ok db31 bd31 fun ks pl h => kw_ok 31 h _ _ rfl rfl
theorem db32 : defB pg tb 32 g32 [(Str.ofString "_law_box_here"), (Str.ofString "_law_values"), (Str.ofString "_law_size")] [(Str.ofString "_law_box_here"), (Str.ofString "_law_values"), (Str.ofString "_law_size"), (Str.ofString "_law_found"), (Str.ofString "_law_turn"), (Str.ofString "_law_more"), (Str.ofString "_law_at"), (Str.ofString "_law_value")] = true := by decide +kernel
theorem dt32 : DefT pg tb 32 g32 [(Str.ofString "_law_box_here"), (Str.ofString "_law_values"), (Str.ofString "_law_size")] [(Str.ofString "_law_box_here"), (Str.ofString "_law_values"), (Str.ofString "_law_size"), (Str.ofString "_law_found"), (Str.ofString "_law_turn"), (Str.ofString "_law_more"), (Str.ofString "_law_at"), (Str.ofString "_law_value")] := defB_ok db32 bd32 fun ks pl h => kw_ok 32 h _ _ rfl rfl
theorem db33 : defB pg tb 33 g33 [(Str.ofString "_law_script")] [(Str.ofString "_law_script"), (Str.ofString "_law_k"), (Str.ofString "_law_box_here"), (Str.ofString "_law_questions"), (Str.ofString "_law_question_here"), (Str.ofString "_law_values"), (Str.ofString "_law_size"), (Str.ofString "_law_turn")] = true := by decide +kernel
theorem dt33 : DefT pg tb 33 g33 [(Str.ofString "_law_script")] [(Str.ofString "_law_script"), (Str.ofString "_law_k"), (Str.ofString "_law_box_here"), (Str.ofString "_law_questions"), (Str.ofString "_law_question_here"), (Str.ofString "_law_values"), (Str.ofString "_law_size"), (Str.ofString "_law_turn")] := defB_ok db33 bd33 fun ks pl h => kw_ok 33 h _ _ rfl rfl
theorem st : stB pg tb xi = true := by decide +kernel
theorem hfn (k : Nat) (ps : List Str) (h : tb.ps[k]? = some ps) : ∃ d N, fn[k]? = some d ∧ d.dfl = [] ∧ d.kwd = [] ∧ DefT pg tb k d ps N := by
  match k, h with
  | 0, h => cases h; exact ⟨g0, _, rfl, rfl, rfl, dt0⟩
  | 1, h => cases h; exact ⟨g1, _, rfl, rfl, rfl, dt1⟩
  | 2, h => cases h; exact ⟨g2, _, rfl, rfl, rfl, dt2⟩
  | 3, h => cases h; exact ⟨g3, _, rfl, rfl, rfl, dt3⟩
  | 4, h => cases h; exact ⟨g4, _, rfl, rfl, rfl, dt4⟩
  | 5, h => cases h; exact ⟨g5, _, rfl, rfl, rfl, dt5⟩
  | 6, h => cases h; exact ⟨g6, _, rfl, rfl, rfl, dt6⟩
  | 7, h => cases h; exact ⟨g7, _, rfl, rfl, rfl, dt7⟩
  | 8, h => cases h; exact ⟨g8, _, rfl, rfl, rfl, dt8⟩
  | 9, h => cases h; exact ⟨g9, _, rfl, rfl, rfl, dt9⟩
  | 10, h => cases h; exact ⟨g10, _, rfl, rfl, rfl, dt10⟩
  | 11, h => cases h; exact ⟨g11, _, rfl, rfl, rfl, dt11⟩
  | 12, h => cases h; exact ⟨g12, _, rfl, rfl, rfl, dt12⟩
  | 13, h => cases h; exact ⟨g13, _, rfl, rfl, rfl, dt13⟩
  | 14, h => cases h; exact ⟨g14, _, rfl, rfl, rfl, dt14⟩
  | 15, h => cases h; exact ⟨g15, _, rfl, rfl, rfl, dt15⟩
  | 16, h => cases h; exact ⟨g16, _, rfl, rfl, rfl, dt16⟩
  | 17, h => cases h; exact ⟨g17, _, rfl, rfl, rfl, dt17⟩
  | 18, h => cases h; exact ⟨g18, _, rfl, rfl, rfl, dt18⟩
  | 19, h => cases h; exact ⟨g19, _, rfl, rfl, rfl, dt19⟩
  | 20, h => cases h; exact ⟨g20, _, rfl, rfl, rfl, dt20⟩
  | 21, h => cases h; exact ⟨g21, _, rfl, rfl, rfl, dt21⟩
  | 22, h => cases h; exact ⟨g22, _, rfl, rfl, rfl, dt22⟩
  | 23, h => cases h; exact ⟨g23, _, rfl, rfl, rfl, dt23⟩
  | 24, h => cases h; exact ⟨g24, _, rfl, rfl, rfl, dt24⟩
  | 25, h => cases h; exact ⟨g25, _, rfl, rfl, rfl, dt25⟩
  | 26, h => cases h; exact ⟨g26, _, rfl, rfl, rfl, dt26⟩
  | 27, h => cases h; exact ⟨g27, _, rfl, rfl, rfl, dt27⟩
  | 28, h => cases h; exact ⟨g28, _, rfl, rfl, rfl, dt28⟩
  | 29, h => cases h; exact ⟨g29, _, rfl, rfl, rfl, dt29⟩
  | 30, h => cases h; exact ⟨g30, _, rfl, rfl, rfl, dt30⟩
  | 31, h => cases h; exact ⟨g31, _, rfl, rfl, rfl, dt31⟩
  | 32, h => cases h; exact ⟨g32, _, rfl, rfl, rfl, dt32⟩
  | 33, h => cases h; exact ⟨g33, _, rfl, rfl, rfl, dt33⟩
  | k + 34, h => cases h
theorem bi0 (B : Str) (ps fs : List Str) (h : initM gi0.body = some (B, ps, fs)) : BnD gi0 ps := by
  cases h
  exact fun _ _ _ _ _ _ us hl => match us, hl with | [_, _], _ => rfl
theorem bi1 (B : Str) (ps fs : List Str) (h : initM gi1.body = some (B, ps, fs)) : BnD gi1 ps := by
  cases h
  exact fun _ _ _ _ _ _ us hl => match us, hl with | [_, _], _ => rfl
theorem bi2 (B : Str) (ps fs : List Str) (h : initM gi2.body = some (B, ps, fs)) : BnD gi2 ps := by
  cases h
  exact fun _ _ _ _ _ _ us hl => match us, hl with | [_, _], _ => rfl
theorem bi3 (B : Str) (ps fs : List Str) (h : initM gi3.body = some (B, ps, fs)) : BnD gi3 ps := by
  cases h
  exact fun _ _ _ _ _ _ us hl => match us, hl with | [_, _], _ => rfl
theorem bi4 (B : Str) (ps fs : List Str) (h : initM gi4.body = some (B, ps, fs)) : BnD gi4 ps := by
  cases h
  exact fun _ _ _ _ _ _ us hl => match us, hl with | [_, _], _ => rfl
theorem hxi (p : Nat × He.DefD) (h : p ∈ xi) : p.2 ∈ fn ∧ p.2.dfl = [] ∧ p.2.kwd = [] ∧ ∀ B ps fs, initM p.2.body = some (B, ps, fs) → BnD p.2 ps := by
  have h2 : p ∈ [(1, gi0), (2, gi1), (3, gi2), (4, gi3), (5, gi4)] := h
  simp only [List.mem_cons, List.not_mem_nil, or_false] at h2
  rcases h2 with rfl | rfl | rfl | rfl | rfl
  · exact ⟨List.mem_iff_getElem?.mpr ⟨34, rfl⟩, rfl, rfl, bi0⟩
  · exact ⟨List.mem_iff_getElem?.mpr ⟨35, rfl⟩, rfl, rfl, bi1⟩
  · exact ⟨List.mem_iff_getElem?.mpr ⟨36, rfl⟩, rfl, rfl, bi2⟩
  · exact ⟨List.mem_iff_getElem?.mpr ⟨37, rfl⟩, rfl, rfl, bi3⟩
  · exact ⟨List.mem_iff_getElem?.mpr ⟨38, rfl⟩, rfl, rfl, bi4⟩
end Lw
end

section
set_option Elab.async false
set_option linter.all false
set_option maxRecDepth 100000
set_option maxHeartbeats 0
namespace Lw
open PySem PySem.Spec PyProof.Rows L2 Dl
def lo0 : List Str := [(Str.ofString "BoardError"), (Str.ofString "InvalidValues"), (Str.ofString "InvalidSize"), (Str.ofString "InvalidBag"), (Str.ofString "InvalidValue"), (Str.ofString "NotInBag"), (Str.ofString "is_integer"), (Str.ofString "is_between"), (Str.ofString "is_index"), (Str.ofString "MOST_VALUES"), (Str.ofString "MOST_SIZE"), (Str.ofString "check_values"), (Str.ofString "check_size"), (Str.ofString "is_bag_of"), (Str.ofString "is_small_bag"), (Str.ofString "all_bags"), (Str.ofString "plus"), (Str.ofString "less"), (Str.ofString "bags"), (Str.ofString "count_bags"), (Str.ofString "bag_index"), (Str.ofString "check_parts"), (Str.ofString "added"), (Str.ofString "removed"), (Str.ofString "_law_cell"), (Str.ofString "_law_box"), (Str.ofString "_law_take"), (Str.ofString "_law_bags"), (Str.ofString "_law_is_number"), (Str.ofString "_law_is_bag"), (Str.ofString "_law_odd"), (Str.ofString "_law_number"), (Str.ofString "_law_bag"), (Str.ofString "_law_near"), (Str.ofString "_law_due"), (Str.ofString "_law_call"), (Str.ofString "_law_named"), (Str.ofString "_law_told"), (Str.ofString "_law_question"), (Str.ofString "_law_answers_right")]
def lo1 : List Str := [(Str.ofString "_law_there_and_back")]
def loose : List Str := lo0 ++ lo1
abbrev Rw : PySem.W.OpenRow := PySem.W.OpenLaw.row PySem.Challenge.rw_oneforone_k01_bags
def ex (K : PySem.W.Frag) : Bool := exB pg tb fn xi K
abbrev hk : PySem.W.Hook := hookL 5 [] fn ex
def ob (s : PySem.W.SharedT) : AlL := obsL 5 [] fn ex (HandSHeadRun.getT s)
theorem ob_eq (s : PySem.W.SharedT) : ob s = hk.obs s.abs := obsL_eq (HandSHeadRun.getT_eq s)
theorem run (w : World) : HandSHeadRun.RunEqI Rw (PySem.W.view Rw.prog [0, 47]) hk ob 4000 loose w := by
  unfold HandSHeadRun.RunEqI
  kernel_rfl
end Lw
end

section
set_option Elab.async false
set_option linter.all false
set_option maxRecDepth 100000
set_option maxHeartbeats 0
open PySem PySem.W PySem.Calls PyProof.Rows
theorem PySem.Challenge.cw_oneforone_k01_bags_holds : PySem.Challenge.rw_oneforone_k01_bags.Holds := by
  w_on; o_law
  refine HandSHeadRun.head_imp (r := OpenLaw.row PySem.Challenge.rw_oneforone_k01_bags) (q := view (OpenLaw.row PySem.Challenge.rw_oneforone_k01_bags).prog [0, 47]) (H := Lw.hk) (ob := Lw.ob) (M := 4000) (loose := Lw.loose) (d := HandSHeadRun.topDef (OpenLaw.row PySem.Challenge.rw_oneforone_k01_bags).prog 47) (kwd := []) Lw.ob_eq
    Lw.run (by kernel_rfl) (by kernel_rfl) (by kernel_rfl) (by rfl) (by first | assumption | decide +kernel) (by decide +kernel) ⟨rfl, rfl, rfl, rfl, rfl, by decide +kernel⟩ ?hw ?hc
  case hw => w_witness2
  case hc =>
    exact Dl.walk_G (l := PySem.Challenge.rw_oneforone_k01_bags) (n := 63) (f := 20) (li := 33) (x := Str.ofString "_law_script") (T := Lw.pg) (tb := Lw.tb) (fn := Lw.fn) (xi := Lw.xi) rfl (by decide) (by kernel_rfl) ⟨⟨rfl, by decide, by decide⟩, rfl⟩ Lw.st rfl rfl Lw.hfn Lw.hxi k01_main
end
